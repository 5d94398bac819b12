import PyProof.Rows.All
import Wide.All
import OpenK.AllK
import Wide.FinOn
import HandS.ForMost
import HandS.ForExc
import HandS.OwnEq
import HandS.Gcd
import HandS.Wide
import KE.SortData
import KE.DataMinMax
import HandS.TupAny
import HandS.Style
import HandS.IsInst
import HandS.Flow
import KE.KOpsOwn
import HandS.TupMul
import HandS.CallSlots
import HandS.ExcIs
import PyProof.NeKinds
import KE.KFmtOwn
import KE.DataEq
import HandS.TryOnly
import HandS.ExcOwn
import HandS.Conv
import HandS.Zip
import HandS.Head3
import HandS.HeadEnd
import HandS.HeadHook4
import HandS.Words
import PySem.Challenge.RW_spaceroads_k19_whole_single_linkage
set_option Elab.async false
set_option linter.all false
set_option maxRecDepth 100000
set_option maxHeartbeats 0
/-! Ev: an evaluator of my own for the part of Python that the program uses, over plain data; and that the model agrees with it. 1: data, how the heap bears them. -/
namespace Ev
open PySem PySem.Spec L2

/-- plain data: what never changes -/
inductive D where
  | non | bl (b : Bool) | int (i : Int) | str (x : Str)
  | tup (xs : List D) | lst (xs : List D) | frz (xs : List D) | ins (c : Nat) (ns : List Nat) (xs : List D)

/-- what a slot holds: data, a list of its own (nobody else refers to it), an instance that is being made, a list of its own with rows of its own -/
inductive EV where
  | fr (d : D) | ow (xs : List D) | oi (c : Nat) (ns : List Nat) (xs : List D) | tb (xss : List (List D))
abbrev EnvD := List (Option EV)

/-- names of the text by number: the classes' addresses, the fields' names -/
structure Gm where
  K : PySem.W.Frag
  ca : Nat → Addr
  fn : Nat → Str

mutual
inductive Rep (G : Gm) (H : Hp) : V → D → Prop
  | non : Rep G H .non .non
  | bl (b : Bool) : Rep G H (.bl b) (.bl b)
  | int (i : Int) : Rep G H (.int i) (.int i)
  | str (x : Str) : Rep G H (.str x) (.str x)
  | tup {a : Addr} {vs : List V} {xs : List D} : SqT G.K H a vs → Reps G H vs xs → Rep G H (.ref a) (.tup xs)
  | lst {a : Addr} {vs : List V} {xs : List D} : H a = some (.lst vs) → Reps G H vs xs → Rep G H (.ref a) (.lst xs)
  | frz {a : Addr} {vs : List V} {xs : List D} : SqL G.K H a vs → Reps G H vs xs → Rep G H (.ref a) (.frz xs)
  | ins {a dx : Addr} {c : Nat} {ns : List Nat} {vs : List V} {xs : List D} : H a = some (.ins (G.ca c) dx ((ns.map G.fn).zip vs)) → Reps G H vs xs → ns.length = vs.length → Rep G H (.ref a) (.ins c ns xs)
inductive Reps (G : Gm) (H : Hp) : List V → List D → Prop
  | nil : Reps G H [] []
  | cons {v : V} {vs : List V} {d : D} {ds : List D} : Rep G H v d → Reps G H vs ds → Reps G H (v :: vs) (d :: ds)
end

theorem SqT.same {K : PySem.W.Frag} {H H' : Hp} {a : Addr} {xs : List V} (e : Same H H') (h : SqT K H a xs) : SqT K H' a xs := by
  rcases h with (h | ⟨o, h⟩) | h
  · exact .inl (.inl (e _ _ h))
  · exact .inl (.inr ⟨o, e _ _ h⟩)
  · exact .inr h

section
variable {G : Gm} {H H' : Hp}
mutual
theorem Rep.mono (e : Same H H') : ∀ {v : V} {d : D}, Rep G H v d → Rep G H' v d
  | _, _, .non => .non
  | _, _, .bl b => .bl b
  | _, _, .int i => .int i
  | _, _, .str x => .str x
  | _, _, .tup h r => .tup (SqT.same e h) (Reps.mono e r)
  | _, _, .lst h r => .lst (e _ _ h) (Reps.mono e r)
  | _, _, .frz h r => .frz (e.seq h) (Reps.mono e r)
  | _, _, .ins h r l => .ins (e _ _ h) (Reps.mono e r) l
theorem Reps.mono (e : Same H H') : ∀ {vs : List V} {ds : List D}, Reps G H vs ds → Reps G H' vs ds
  | _, _, .nil => .nil
  | _, _, .cons h r => .cons (Rep.mono e h) (Reps.mono e r)
end
theorem Reps.length : ∀ {vs : List V} {ds : List D}, Reps G H vs ds → vs.length = ds.length
  | _, _, .nil => rfl
  | _, _, .cons _ r => congrArg Nat.succ r.length
theorem Reps.get : ∀ {vs : List V} {ds : List D} {i : Nat} {v : V}, Reps G H vs ds → vs[i]? = some v → ∃ d, ds[i]? = some d ∧ Rep G H v d
  | _, _, _, _, .nil, e => by simp at e
  | _, _, 0, _, .cons r _, e => by simp at e; subst e; exact ⟨_, rfl, r⟩
  | _, _, i + 1, v, .cons _ t, e => by
    obtain ⟨u, h1, h2⟩ := Reps.get (i := i) (v := v) t (by simpa using e)
    exact ⟨u, by simpa using h1, h2⟩
theorem Reps.getD : ∀ {vs : List V} {ds : List D} {i : Nat} {d : D}, Reps G H vs ds → ds[i]? = some d → ∃ v, vs[i]? = some v ∧ Rep G H v d
  | _, _, _, _, .nil, e => by simp at e
  | _, _, 0, _, .cons r _, e => by simp at e; subst e; exact ⟨_, rfl, r⟩
  | _, _, i + 1, v, .cons _ t, e => by
    obtain ⟨u, h1, h2⟩ := Reps.getD (i := i) (d := v) t (by simpa using e)
    exact ⟨u, by simpa using h1, h2⟩
theorem Reps.append : ∀ {vs ws : List V} {ds es : List D}, Reps G H vs ds → Reps G H ws es → Reps G H (vs ++ ws) (ds ++ es)
  | _, _, _, _, .nil, q => q
  | _, _, _, _, .cons h r, q => .cons h (r.append q)
theorem Reps.take : ∀ {vs : List V} {ds : List D} (n : Nat), Reps G H vs ds → Reps G H (vs.take n) (ds.take n)
  | _, _, 0, _ => .nil
  | _, _, _ + 1, .nil => .nil
  | _, _, n + 1, .cons h r => .cons h (r.take n)
theorem Reps.drop : ∀ {vs : List V} {ds : List D} (n : Nat), Reps G H vs ds → Reps G H (vs.drop n) (ds.drop n)
  | _, _, 0, r => r
  | _, _, _ + 1, .nil => .nil
  | _, _, n + 1, .cons _ r => r.drop n
theorem Reps.set : ∀ {vs : List V} {ds : List D} {v : V} {d : D} (n : Nat), Reps G H vs ds → Rep G H v d → Reps G H (vs.set n v) (ds.set n d)
  | _, _, _, _, _, .nil, _ => .nil
  | _, _, _, _, 0, .cons _ r, q => .cons q r
  | _, _, _, _, n + 1, .cons h r, q => .cons h (r.set n q)
theorem Reps.eraseIdx : ∀ {vs : List V} {ds : List D} (n : Nat), Reps G H vs ds → Reps G H (vs.eraseIdx n) (ds.eraseIdx n)
  | _, _, _, .nil => .nil
  | _, _, 0, .cons _ r => r
  | _, _, n + 1, .cons h r => .cons h (r.eraseIdx n)
theorem Reps.reverse {vs : List V} {ds : List D} (r : Reps G H vs ds) : Reps G H vs.reverse ds.reverse := by
  induction vs generalizing ds with
  | nil => cases r; exact .nil
  | cons v vs ih =>
    cases r with
    | cons h r =>
      rw [List.reverse_cons, List.reverse_cons]
      exact (ih r).append (.cons h .nil)
theorem Reps.ints : ∀ {vs : List V} {is : List Int}, Reps G H vs (is.map D.int) → vs = is.map V.int
  | _, [], .nil => rfl
  | _, i :: is, .cons h r => by
    cases h
    rw [Reps.ints r]
    rfl
end

/-! ### slots -/
/-- rows of a table: lists that nobody else refers to -/
inductive Rows (G : Gm) (Hf H : Hp) : List V → List (List D) → Prop
  | nil : Rows G Hf H [] []
  | cons {b : Addr} {us vs : List V} {xs : List D} {xss : List (List D)} : Hf b = none → H b = some (.lst us) → Reps G Hf us xs → Rows G Hf H vs xss → Rows G Hf H (.ref b :: vs) (xs :: xss)
/-- a slot's value -/
def SR (G : Gm) (Hf H : Hp) (v : V) : EV → Prop
  | .fr d => Rep G Hf v d
  | .ow xs => ∃ a vs, v = .ref a ∧ Hf a = none ∧ H a = some (.lst vs) ∧ Reps G Hf vs xs
  | .oi c ns xs => ∃ a dx vs, v = .ref a ∧ Hf a = none ∧ H a = some (.ins (G.ca c) dx ((ns.map G.fn).zip vs)) ∧ Reps G Hf vs xs ∧ ns.length = vs.length
  | .tb xss => ∃ a vs, v = .ref a ∧ Hf a = none ∧ H a = some (.lst vs) ∧ Rows G Hf H vs xss ∧ vs.Nodup ∧ V.ref a ∉ vs
/-- it is an object of the slot's own -/
def EV.own : EV → Bool
  | .fr _ => false
  | _ => true
/-- the objects that a slot's value has for itself -/
def Has (H : Hp) : EV → V → Addr → Prop
  | .fr _, _, _ => False
  | .ow _, v, a => v = .ref a
  | .oi _ _ _, v, a => v = .ref a
  | .tb _, v, a => v = .ref a ∨ ∃ b vs, v = .ref b ∧ H b = some (.lst vs) ∧ V.ref a ∈ vs
/-- the slots own the object at a -/
def Own (σ : St) (ρ : EnvD) (H : Hp) (a : Addr) : Prop := ∃ (i : Nat) (e : EV) (v : V), ρ[i]? = some (some e) ∧ σ[i]? = some (some v) ∧ Has H e v a

/-- Hf: what is never changed any more and may be referred to; ρ: what the slots hold -/
structure ER (G : Gm) (σ : St) (ρ : EnvD) (Hf H : Hp) : Prop where
  sub : Same Hf H
  slot : ∀ (i : Nat) (e : EV), ρ[i]? = some (some e) → ∃ v, σ[i]? = some (some v) ∧ SR G Hf H v e
  apart : ∀ (i j : Nat) (e e' : EV) (v w : V) (a : Addr), ρ[i]? = some (some e) → ρ[j]? = some (some e') → σ[i]? = some (some v) → σ[j]? = some (some w) → Has H e v a → Has H e' w a → i = j

/-- from one state to a later one -/
structure Stp (G : Gm) (σ : St) (ρ : EnvD) (Hf H : Hp) (σ' : St) (ρ' : EnvD) (Hf' H' : Hp) : Prop where
  er : ER G σ' ρ' Hf' H'
  ext : Same Hf Hf'
  frame : ∀ a o, H a = some o → ¬ Own σ ρ H a → H' a = some o
  acc : ∀ a, (Own σ' ρ' H' a ∨ Hf' a ≠ none) → Own σ ρ H a ∨ Hf a ≠ none ∨ H a = none

section
variable {G : Gm} {Hf H Hf' H' : Hp} {v : V} {e : EV} {a : Addr}
theorem Rows.mem : ∀ {vs : List V} {xss : List (List D)} {b : Addr}, Rows G Hf H vs xss → V.ref b ∈ vs → Hf b = none ∧ ∃ us, H b = some (.lst us)
  | _, _, b, .nil, h => by cases h
  | _, _, b, .cons h1 h2 h3 r, h => by
    rcases List.mem_cons.mp h with z | z
    · cases z; exact ⟨h1, _, h2⟩
    · exact r.mem z
theorem Rows.move (ext : Same Hf Hf') : ∀ {vs : List V} {xss : List (List D)}, Rows G Hf H vs xss → (∀ b, V.ref b ∈ vs → H' b = H b) → (∀ b, V.ref b ∈ vs → Hf' b = none) → Rows G Hf' H' vs xss
  | _, _, .nil, _, _ => .nil
  | _, _, .cons h1 h2 h3 r, q1, q2 => .cons (q2 _ List.mem_cons_self) ((q1 _ List.mem_cons_self).trans h2) (h3.mono ext) (r.move ext (fun b h => q1 b (List.mem_cons_of_mem _ h)) fun b h => q2 b (List.mem_cons_of_mem _ h))
theorem Rows.length : ∀ {vs : List V} {xss : List (List D)}, Rows G Hf H vs xss → vs.length = xss.length
  | _, _, .nil => rfl
  | _, _, .cons _ _ _ r => congrArg Nat.succ r.length
theorem Rows.ref : ∀ {vs : List V} {xss : List (List D)} {u : V}, Rows G Hf H vs xss → u ∈ vs → ∃ b, u = .ref b
  | _, _, u, .nil, h => by cases h
  | _, _, u, .cons h1 h2 h3 r, h => by
    rcases List.mem_cons.mp h with z | z
    · exact ⟨_, z⟩
    · exact r.ref z
theorem Rows.getD : ∀ {vs : List V} {xss : List (List D)} {i : Nat} {xs : List D}, Rows G Hf H vs xss → xss[i]? = some xs → ∃ b us, vs[i]? = some (.ref b) ∧ Hf b = none ∧ H b = some (.lst us) ∧ Reps G Hf us xs
  | _, _, _, _, .nil, e => by simp at e
  | _, _, 0, _, .cons h1 h2 h3 r, e => by simp at e; subst e; exact ⟨_, _, rfl, h1, h2, h3⟩
  | _, _, i + 1, xs, .cons h1 h2 h3 r, e => by
    obtain ⟨b, us, q1, q2⟩ := Rows.getD (i := i) (xs := xs) r (by simpa using e)
    exact ⟨b, us, by simpa using q1, q2⟩
theorem Has.own (h : Has H e v a) : e.own = true := by cases e <;> first | rfl | cases h
theorem Has.fr {d : D} (h : Has H (.fr d) v a) : False := h
theorem SR.isRef (h : SR G Hf H v e) (o : e.own = true) : ∃ b ob, v = .ref b ∧ Hf b = none ∧ H b = some ob ∧ Has H e v b := by
  cases e with
  | fr d => cases o
  | ow xs => obtain ⟨a, vs, e, h1, h2, _⟩ := h; exact ⟨a, _, e, h1, h2, e⟩
  | oi c ns xs => obtain ⟨a, dx, vs, e, h1, h2, _⟩ := h; exact ⟨a, _, e, h1, h2, e⟩
  | tb xss => obtain ⟨a, vs, e, h1, h2, _⟩ := h; exact ⟨a, _, e, h1, h2, .inl e⟩
/-- what a value has for itself is alive, and not frozen -/
theorem SR.has (h : SR G Hf H v e) (q : Has H e v a) : Hf a = none ∧ ∃ ob, H a = some ob := by
  cases e with
  | fr d => cases q
  | ow xs => obtain ⟨b, vs, e, h1, h2, _⟩ := h; rw [show v = .ref a from q] at e; cases e; exact ⟨h1, _, h2⟩
  | oi c ns xs => obtain ⟨b, dx, vs, e, h1, h2, _⟩ := h; rw [show v = .ref a from q] at e; cases e; exact ⟨h1, _, h2⟩
  | tb xss =>
    obtain ⟨b, vs, e, h1, h2, h3, _⟩ := h
    rcases q with q | ⟨b', vs', q1, q2, q3⟩
    · rw [q] at e; cases e; exact ⟨h1, _, h2⟩
    · rw [q1] at e; cases e
      rw [q2] at h2; cases h2
      obtain ⟨k1, us, k2⟩ := h3.mem q3
      exact ⟨k1, _, k2⟩
/-- the same where its objects stand as they stood -/
theorem SR.hasIff (h : SR G Hf H v e) (hH : ∀ b, Has H e v b → H' b = H b) : Has H' e v a ↔ Has H e v a := by
  cases e with
  | tb xss =>
    obtain ⟨b, vs, e, h1, h2, h3, _⟩ := h
    have hb := (hH b (.inl e)).trans h2
    constructor
    · rintro (q | ⟨b', vs', q1, q2, q3⟩)
      · exact .inl q
      · have : b' = b := by rw [q1] at e; cases e; rfl
        subst this
        rw [hb] at q2; cases q2
        exact .inr ⟨b', vs, e, h2, q3⟩
    · rintro (q | ⟨b', vs', q1, q2, q3⟩)
      · exact .inl q
      · have : b' = b := by rw [q1] at e; cases e; rfl
        subst this
        rw [h2] at q2; cases q2
        exact .inr ⟨b', vs, e, hb, q3⟩
  | _ => exact Iff.rfl
theorem SR.move (h : SR G Hf H v e) (hH : ∀ b, Has H e v b → H' b = H b) (hf : ∀ b, Has H e v b → Hf' b = none) (ext : Same Hf Hf') : SR G Hf' H' v e := by
  cases e with
  | fr d => exact Rep.mono ext h
  | ow xs => obtain ⟨a, vs, e, h1, h2, h3⟩ := h; exact ⟨a, vs, e, hf a e, (hH a e).trans h2, h3.mono ext⟩
  | oi c ns xs => obtain ⟨a, dx, vs, e, h1, h2, h3, h4⟩ := h; exact ⟨a, dx, vs, e, hf a e, (hH a e).trans h2, h3.mono ext, h4⟩
  | tb xss =>
    obtain ⟨a, vs, e, h1, h2, h3, h4⟩ := h
    exact ⟨a, vs, e, hf a (.inl e), (hH a (.inl e)).trans h2, h3.move ext (fun b q => hH b (.inr ⟨a, vs, e, h2, q⟩)) (fun b q => hf b (.inr ⟨a, vs, e, h2, q⟩)), h4⟩
end
section
variable {G : Gm} {σ σ1 σ2 : St} {ρ ρ1 ρ2 : EnvD} {Hf H Hf1 H1 Hf2 H2 : Hp}
theorem ER.own (E : ER G σ ρ Hf H) {a : Addr} (h : Own σ ρ H a) : Hf a = none ∧ ∃ ob, H a = some ob := by
  obtain ⟨i, e, v, h1, h2, h3⟩ := h
  obtain ⟨w, h4, h5⟩ := E.slot i e h1
  rw [h2] at h4
  cases h4
  exact h5.has h3
theorem ER.sr (E : ER G σ ρ Hf H) {i : Nat} {e : EV} {v : V} (h1 : ρ[i]? = some (some e)) (h2 : σ[i]? = some (some v)) : SR G Hf H v e := by
  obtain ⟨w, h4, h5⟩ := E.slot i e h1
  rw [h2] at h4
  cases h4
  exact h5
theorem Stp.refl (E : ER G σ ρ Hf H) : Stp G σ ρ Hf H σ ρ Hf H where
  er := E
  ext := Same.refl _
  frame := fun _ _ h _ => h
  acc := fun a h => h.elim .inl fun h => .inr (.inl h)
theorem Stp.trans (a : Stp G σ ρ Hf H σ1 ρ1 Hf1 H1) (b : Stp G σ1 ρ1 Hf1 H1 σ2 ρ2 Hf2 H2) : Stp G σ ρ Hf H σ2 ρ2 Hf2 H2 where
  er := b.er
  ext := a.ext.trans b.ext
  frame := fun c o h n => by
    refine b.frame c o (a.frame c o h n) fun h1 => ?_
    have q := (a.er.own h1).1
    rcases a.acc c (.inl h1) with z | z | z
    · exact n z
    · cases e : Hf c with
      | none => exact z e
      | some o' => rw [a.ext c o' e] at q; cases q
    · rw [h] at z; cases z
  acc := fun c h => by
    rcases b.acc c h with z | z | z
    · exact a.acc c (.inl z)
    · exact a.acc c (.inr z)
    · cases e : H c with
      | none => exact .inr (.inr rfl)
      | some o =>
        by_cases n : Own σ ρ H c
        · exact .inl n
        · rw [a.frame c o e n] at z; cases z
/-- only new things were made: Hf may have grown by them -/
structure Gr (Hf H Hf' H' : Hp) : Prop where
  sub : Same Hf' H'
  ext : Same Hf Hf'
  grow : Same H H'
  acc : ∀ a, Hf' a ≠ none → Hf a ≠ none ∨ H a = none
theorem Gr.refl (s : Same Hf H) : Gr Hf H Hf H := ⟨s, Same.refl _, Same.refl _, fun _ h => .inl h⟩
theorem Gr.trans (a : Gr Hf H Hf1 H1) (b : Gr Hf1 H1 Hf2 H2) : Gr Hf H Hf2 H2 :=
  ⟨b.sub, a.ext.trans b.ext, a.grow.trans b.grow, fun c h => (b.acc c h).elim (fun z => a.acc c z) fun z => .inr (a.grow.free z)⟩
theorem SR.stays {v : V} {e : EV} (g : Same H H1) (h : SR G Hf H v e) {b : Addr} (q : Has H e v b) : H1 b = H b := by
  obtain ⟨_, ob, k⟩ := h.has q
  rw [k, g _ _ k]
theorem SR.grow {v : V} {e : EV} (g : Gr Hf H Hf1 H1) (h : SR G Hf H v e) : SR G Hf1 H1 v e :=
  h.move (fun b q => h.stays g.grow q) (fun b q => by
    obtain ⟨k1, ob, k2⟩ := h.has q
    cases q : Hf1 b with
    | none => rfl
    | some o =>
      rcases g.acc b (by rw [q]; exact fun z => by cases z) with z | z
      · exact absurd k1 z
      · rw [k2] at z; cases z) g.ext
theorem ER.hasGrow (E : ER G σ ρ Hf H) (g : Same H H1) {i : Nat} {e : EV} {v : V} {a : Addr} (h1 : ρ[i]? = some (some e)) (h2 : σ[i]? = some (some v)) : Has H1 e v a ↔ Has H e v a :=
  (E.sr h1 h2).hasIff fun _ q => (E.sr h1 h2).stays g q
theorem Own.grow (E : ER G σ ρ Hf H) (g : Same H H1) {a : Addr} : Own σ ρ H1 a ↔ Own σ ρ H a :=
  ⟨fun ⟨i, e, v, h1, h2, h3⟩ => ⟨i, e, v, h1, h2, (E.hasGrow g h1 h2).mp h3⟩, fun ⟨i, e, v, h1, h2, h3⟩ => ⟨i, e, v, h1, h2, (E.hasGrow g h1 h2).mpr h3⟩⟩
theorem ER.grow (E : ER G σ ρ Hf H) (g : Gr Hf H Hf1 H1) : ER G σ ρ Hf1 H1 :=
  ⟨g.sub, fun i e h => let ⟨v, h1, h2⟩ := E.slot i e h; ⟨v, h1, h2.grow g⟩, fun i j e e' v w a h1 h2 h3 h4 h5 h6 => E.apart i j e e' v w a h1 h2 h3 h4 ((E.hasGrow g.grow h1 h3).mp h5) ((E.hasGrow g.grow h2 h4).mp h6)⟩
theorem Gr.stp (E : ER G σ ρ Hf H) (g : Gr Hf H Hf1 H1) : Stp G σ ρ Hf H σ ρ Hf1 H1 :=
  ⟨E.grow g, g.ext, fun a o h _ => g.grow a o h, fun a h => h.elim (fun z => .inl ((Own.grow E g.grow).mp z)) fun h => .inr (g.acc a h)⟩
/-- a new frozen object -/
theorem Gr.new {a : Addr} {o : HO} (s : Same Hf H) (h : H a = none) : Gr Hf H (upd Hf a o) (upd H a o) where
  sub := fun b u e => by
    by_cases q : b = a
    · subst q; rw [upd_same] at e ⊢; exact e
    · rw [upd_ne q] at e ⊢; exact s b u e
  ext := fun b u e => by
    rw [upd_ne fun q => by subst q; rw [s _ _ e] at h; cases h]; exact e
  grow := fun b u e => by
    rw [upd_ne fun q => by subst q; rw [e] at h; cases h]; exact e
  acc := fun b n => by
    by_cases q : b = a
    · exact .inr (q ▸ h)
    · rw [upd_ne q] at n; exact .inl n
/-- a new object that is not frozen -/
theorem Gr.loose {a : Addr} {o : HO} (s : Same Hf H) (h : H a = none) : Gr Hf H Hf (upd H a o) where
  sub := fun b u e => by
    rw [upd_ne fun q => by subst q; rw [s _ _ e] at h; cases h]; exact s b u e
  ext := Same.refl _
  grow := fun b u e => by
    rw [upd_ne fun q => by subst q; rw [e] at h; cases h]; exact e
  acc := fun b n => .inl n
end
end Ev
/-! Ev 2: the syntax and the evaluator. -/
namespace Ev
open PySem L2
noncomputable section
/-- types that isinstance asks for -/
inductive Ty where
  | int | bool | str | tuple | list | cls (c : Nat)
  deriving DecidableEq
inductive Op where
  | add | sub | mul | fdiv | mod | pow | shl | xor | neg
  | eq | ne | lt | le | gt | ge | isin | notin | is | isnot
  | idx | slice (lo hi : Bool) | tup | lst | attr (f : Nat)
  | len | abs | int | str | tuple | list | min | max | sum | any | all | sorted | gcd | lcm
  | isa (ts : List Ty)
  | join | partition | startswith | removeprefix | split | strip | index | count | max1 | min1
/-- targets -/
inductive Tg where
  | nm (i : Nat) | tp (is : List Nat)
mutual
inductive E where
  | cst (d : D) | var (i : Nat) | bor (i : Nat) | mut (i : Nat) | own (i : Nat) | glob (g : Nat)
  | op (o : Op) (es : Es)
  | and (a b : E) | or (a b : E) | not (a : E) | ife (c a b : E) | chain (o o' : Op) (a b c : E)
  | call (f : Nat) (es : Es) | new (c : Nat) (es : Es) | meth (m : Nat) (o : E) (es : Es)
  | lc (own : List Nat) (t : Tg) (it : It) (cs : Es) (e : E)
  | lt (own : List Nat) (t : Tg) (it : It) (e : E) | ix2 (i : Nat) (x y : E) | lrg (es : Es)
  | pop (i : Nat) (es : Es)
  | bad
inductive Es where
  | nil | cons (e : E) (es : Es)
inductive It where
  | seq (e : E) | rng (es : Es) | zip (es : Es) | enum (e : E)
end
/-- what an except suite may say of the error -/
inductive Su where
  | cst (d : D) | fld (f : Nat) | tup (es : List Su) | eq (a b : Su) | isa (cs : List Nat) | ve | and (a b : Su) | not (a : Su)
/-- places that are stored to: a name, an item of a list, an item of a table's row -/
inductive Tl where
  | nm (i : Nat) | sub (i : Nat) (x : E) | sub2 (i : Nat) (x y : E)
mutual
inductive S where
  | pass | asg (t : Tg) (e : E) | par (i j : Nat) (a b : E) | sub (i : Nat) (x e : E) | fld (i f : Nat) (e : E) | app (i : Nat) (e : E) | expr (e : E) | aug (i : Nat) (o : Op) (e : E)
  | ret (e : E) | retn | ifs (c : E) (a b : Ss) | for_ (t : Tg) (it : It) (b : Ss) | while_ (c : E) (b : Ss)
  | raise (c : Nat) (es : Es) | try_ (b : Ss) (hs : Hs) | bad
  | st (t : Tl) (e : E) | sts (ts : List Tl) (es : Es) | kill (vs : List Nat) | frz (vs : List Nat) | ext (i : Nat) (e : E)
inductive Ss where
  | nil | cons (s : S) (ss : Ss)
/-- except clauses: the class, what the suite returns, or the error that it raises -/
inductive Hs where
  | nil | ret (c : Nat) (u : Su) (hs : Hs) | raise (c : Nat) (c' : Nat) (d : D) (hs : Hs)
end

/-- an error: its class, its field's value -/
inductive Exn where
  | mk (c : Nat) (d : D)
inductive R (α : Type) where
  | ok (a : α) (ρ : EnvD) | ex (x : Exn)
inductive F where
  | nx (ρ : EnvD) | rt (e : EV) (ρ : EnvD) | ex (x : Exn)
/-- what an operation, a call ends by: a value (and the mutable parameters' objects), or an error -/
inductive An where
  | ok (e : EV) | ex (x : Exn)
inductive CR where
  | ret (e : EV) (fin : List EV) | exc (x : Exn)
abbrev Orc := Nat → List EV → Option CR

structure Fn where
  np : Nat
  dfl : List D
  mu : List Nat
  ns : Nat
  body : Ss
structure Prog where
  fn : Nat → Option Fn
  glob : Nat → Option D
  meth : Nat → Nat → Option Nat
  sub : Nat → Nat → Option Bool
  fld : Nat → Nat → Bool
  exc : Nat → Bool
  xf : Nat → Option Nat

/-- method names by number -/
abbrev mInit : Nat := 0
abbrev mEq : Nat := 1
abbrev mAdd : Nat := 2
abbrev mSub : Nat := 3
abbrev mMul : Nat := 4
abbrev mNeg : Nat := 5
abbrev mStr : Nat := 6

def EV.fz : EV → D
  | .fr d => d
  | .ow xs => .lst xs
  | .oi c ns xs => .ins c ns xs
  | .tb xss => .lst (xss.map .lst)
/-- of its own, and nothing of its own in it -/
def EV.flat : EV → Bool
  | .ow _ => true
  | .oi _ _ _ => true
  | _ => false
def bindR {α β : Type} (m : Option (R α)) (k : α → EnvD → Option (R β)) : Option (R β) := match m with
  | none => none
  | some (.ex x) => some (.ex x)
  | some (.ok a ρ) => k a ρ
def bindF {α : Type} (m : Option (R α)) (k : α → EnvD → Option F) : Option F := match m with
  | none => none
  | some (.ex x) => some (.ex x)
  | some (.ok a ρ) => k a ρ
/-- an operand -/
inductive OD where
  | d (x : D) | b (i : Nat) | m (i : Nat)
def get (ρ : EnvD) (i : Nat) : Option EV := match ρ[i]? with
  | some (some e) => some e
  | _ => none
def view (ρ : EnvD) : OD → Option D
  | .d x => some x
  | .b i => match get ρ i with
    | some (.tb _) => none
    | o => o.map EV.fz
  | .m _ => none
def views (ρ : EnvD) : List OD → Option (List D)
  | [] => some []
  | o :: os => match view ρ o with
    | none => none
    | some d => match views ρ os with
      | none => none
      | some ds => some (d :: ds)
def OD.isD : OD → Bool
  | .d _ => true
  | _ => false
def OD.isB : OD → Bool
  | .b _ => true
  | _ => false
def OD.isM : OD → Bool
  | .m _ => true
  | _ => false

def most : Nat := 1000000
def mulOk (i j : Int) : Bool := decide (i.natAbs < 2 ^ 60) || decide (j.natAbs < 2 ^ 60) || decide (i.natAbs.log2 + j.natAbs.log2 < 100000000)
def divOk (j : Int) : Bool := decide (j ≠ 0) && decide (j.natAbs.log2 < 9000)
/-- an item at a place of either sign -/
def ixD (n : Nat) (i : Int) : Option Nat := if 0 ≤ i then (if i < n then some i.toNat else none) else if 0 ≤ (n : Int) + i then some ((n : Int) + i).toNat else none
def cut {α : Type} (xs : List α) (lo hi : Option Int) : List α := (xs.drop (HT.sIx xs.length 0 lo)).take (HT.sIx xs.length xs.length hi - HT.sIx xs.length 0 lo)
def lookF (f : Nat) : List Nat → List D → Option D
  | n :: ns, x :: xs => if n = f then some x else lookF f ns xs
  | _, _ => none
def putFD (f : Nat) (v : D) : List Nat → List D → List Nat × List D
  | n :: ns, x :: xs => if n = f then (n :: ns, v :: xs) else ((n :: (putFD f v ns xs).1), (x :: (putFD f v ns xs).2))
  | _, _ => ([f], [v])
def boolsOf : List D → Option (List Bool)
  | [] => some []
  | .bl b :: r => (boolsOf r).map (b :: ·)
  | _ => none
def intsOf : List D → Option (List Int)
  | [] => some []
  | .int b :: r => (intsOf r).map (b :: ·)
  | _ => none
def atom : D → Bool
  | .non => true | .bl _ => true | .int _ => true | .str _ => true
  | _ => false
mutual
/-- data without a list in it -/
def noLst : D → Bool
  | .lst _ => false
  | .frz _ => false
  | .tup xs => noLsts xs
  | .ins _ _ xs => noLsts xs
  | _ => true
def noLsts : List D → Bool
  | [] => true
  | x :: xs => noLst x && noLsts xs
end
def truth : D → Option Bool
  | .non => some false
  | .bl b => some b
  | .int i => some (i != 0)
  | .str x => if x.length ≤ most then some (x.length != 0) else none
  | .tup xs => some (!xs.isEmpty)
  | .lst xs => some (!xs.isEmpty)
  | .frz xs => some (!xs.isEmpty)
  | .ins _ _ _ => none

mutual
/-- as the library's data -/
def pyD : D → PyData
  | .bl b => .bool b
  | .int i => .int i
  | .str x => .str x
  | .tup xs => .tuple (pyDs xs)
  | .lst xs => .list (pyDs xs)
  | _ => .none
def pyDs : List D → List PyData
  | [] => []
  | x :: xs => pyD x :: pyDs xs
end
mutual
/-- no instances in it; so deep at most -/
def pl : Nat → D → Bool
  | _, .non => true
  | _, .bl _ => true
  | _, .int _ => true
  | _, .str _ => true
  | n + 1, .tup xs => pls n xs
  | n + 1, .lst xs => pls n xs
  | _, _ => false
def pls : Nat → List D → Bool
  | _, [] => true
  | n, x :: xs => pl n x && pls n xs
end
section
variable (P : Prog) (C : Orc)
/-- the other one's class does not come first -/
def eqOk (c : Nat) : D → Bool
  | .ins c' _ _ => c' == c || P.sub c' c == some false
  | _ => true
/-- a call's answer where nothing was handed that may change -/
def ans : Option CR → Option An
  | some (.ret e []) => some (.ok e)
  | some (.exc x) => some (.ex x)
  | _ => none
/-- equal for sure: flat data, instances by their own == -/
def eq0 : D → D → Bool
  | .non, .non => true
  | .bl a, .bl b => a == b
  | .int a, .int b => a == b
  | .str a, .str b => a == b
  | .ins c ns xs, .ins c' ns' xs' => eqOk P c (.ins c' ns' xs') && (match P.meth c mEq with
    | some f => match C f [.fr (.ins c ns xs), .fr (.ins c' ns' xs')] with
      | some (.ret (.fr (.bl true)) []) => true
      | _ => false
    | none => false)
  | _, _ => false
/-- the same, item by item -/
def eqT : Nat → D → D → Bool
  | n + 1, .tup xs, .tup ys => xs.length == ys.length && (xs.zip ys).all fun p => eqT n p.1 p.2
  | n + 1, .lst xs, .lst ys => xs.length == ys.length && (xs.zip ys).all fun p => eqT n p.1 p.2
  | _, d, e => eq0 P C d e
/-- of other kinds -/
def offD : D → D → Bool
  | .tup _, .non => true | .tup _, .bl _ => true | .tup _, .int _ => true | .tup _, .str _ => true | .tup _, .lst _ => true
  | .lst _, .non => true | .lst _, .bl _ => true | .lst _, .int _ => true | .lst _, .str _ => true | .lst _, .tup _ => true
  | .non, .tup _ => true | .bl _, .tup _ => true | .int _, .tup _ => true | .str _, .tup _ => true
  | .non, .lst _ => true | .bl _, .lst _ => true | .int _, .lst _ => true | .str _, .lst _ => true
  | _, _ => false
/-- ==, of data without instances -/
def eqD (d e : D) : Option Bool := if pl 6 d && pl 6 e then some (PyData.eqv (pyD d) (pyD e)) else if offD d e then some false else match d with
  | .ins c ns xs => if eqOk P c e then match P.meth c mEq with
      | some f => match C f [.fr (.ins c ns xs), .fr e] with
        | some (.ret (.fr (.bl b)) []) => some b
        | _ => none
      | none => none
    else none
  | .tup xs => if eqT P C 4 (.tup xs) e then some true else none
  | .lst xs => if eqT P C 4 (.lst xs) e then some true else none
  | _ => none
def tyD : D → Ty → Option Bool
  | .ins c _ _, .cls c' => if P.exc c = false then P.sub c c' else none
  | .ins c _ _, _ => if P.sub c c = some true ∧ P.exc c = false then some false else none
  | _, .cls c' => if P.sub c' c' = some true then some false else none
  | .bl _, .int => some true
  | .bl _, .bool => some true
  | .int _, .int => some true
  | .str _, .str => some true
  | .tup _, .tuple => some true
  | .lst _, .list => some true
  | .frz _, .list => some true
  | _, _ => some false
def isaD (d : D) : List Ty → Option Bool
  | [] => some false
  | t :: ts => match tyD P d t with
    | some true => some true
    | some false => isaD d ts
    | none => none
/-- isinstance of an error -/
def isaX (c : Nat) : List Nat → Option Bool
  | [] => some false
  | c' :: cs => match P.sub c c' with
    | some true => some true
    | some false => isaX c cs
    | none => none
def insOf (c : Nat) : D → Bool
  | .ins c' _ _ => c' == c
  | _ => false
def dunder (m : Nat) (a : D) (r : List D) : Option An := match a with
  | .ins c ns xs => if r.all (insOf c) then match P.meth c m with
      | some f => ans (C f ((a :: r).map .fr))
      | none => none
    else none
  | _ => none
def boolA (o : Option Bool) : Option An := o.map fun b => .ok (.fr (.bl b))
def valA (d : D) : Option An := some (.ok (.fr d))
def addD : D → D → Option An
  | .int i, .int j => valA (.int (i + j))
  | .str a, .str b => if a.length + b.length ≤ most then valA (.str (a ++ b)) else none
  | .lst xs, .lst ys => if xs.length + ys.length ≤ most then some (.ok (.ow (xs ++ ys))) else none
  | .tup xs, .tup ys => if xs.length + ys.length ≤ most then valA (.tup (xs ++ ys)) else none
  | a, b => dunder P C mAdd a [b]
def subD : D → D → Option An
  | .int i, .int j => valA (.int (i - j))
  | a, b => dunder P C mSub a [b]
def mulD : D → D → Option An
  | .int i, .int j => if mulOk i j then valA (.int (i * j)) else none
  | .tup xs, .int k => if (1 ≤ k ∧ k ≤ 1000) ∧ (xs ≠ [] ∧ xs.length ≤ 1000) then valA (.tup (List.replicate k.toNat xs).flatten) else none
  | .lst xs, .int k => if (0 ≤ k ∧ k ≤ 1000) ∧ xs.length ≤ 1000 then some (.ok (.ow (List.replicate k.toNat xs).flatten)) else none
  | a, b => dunder P C mMul a [b]
def fdivD : D → D → Option An
  | .int i, .int j => if divOk j then valA (.int (i.fdiv j)) else none
  | _, _ => none
def modD : D → D → Option An
  | .int i, .int j => if j ≠ 0 then valA (.int (i.fmod j)) else none
  | _, _ => none
def powD : D → D → Option An
  | .int i, .int j => if 0 ≤ j ∧ j ≤ 1000000 ∧ i.natAbs < 2 ^ 64 then valA (.int (i ^ j.toNat)) else none
  | _, _ => none
def shlD : D → D → Option An
  | .int i, .int j => if 0 ≤ j ∧ j ≤ 1000000 ∧ i.natAbs < 2 ^ 64 then valA (.int (i * 2 ^ j.toNat)) else none
  | _, _ => none
def negD : D → Option An
  | .int i => valA (.int (-i))
  | a => dunder P C mNeg a []
def cmpD (f : Int → Int → Bool) : D → D → Option An
  | .int i, .int j => valA (.bl (f i j))
  | _, _ => none
def isD : D → D → Option Bool
  | .non, .non => some true
  | _, .non => some false
  | .bl c, .bl b => some (c == b)
  | _, .bl b => some false
  | _, _ => none
def inD (a : D) : D → Option Bool
  | .lst ys => if pl 5 a && pls 5 ys then some ((pyDs ys).any fun y => PyData.eqv y (pyD a)) else none
  | .tup ys => if pl 5 a && pls 5 ys then some ((pyDs ys).any fun y => PyData.eqv y (pyD a)) else none
  | _ => none
def idxD : D → D → Option An
  | .lst xs, .int i => (ixD xs.length i).bind fun k => xs[k]?.bind valA
  | .tup xs, .int i => (ixD xs.length i).bind fun k => xs[k]?.bind valA
  | .frz xs, .int i => (ixD xs.length i).bind fun k => xs[k]?.bind valA
  | _, _ => none
def sliceD : D → Option Int → Option Int → Option An
  | .lst xs, lo, hi => some (.ok (.ow (cut xs lo hi)))
  | .frz xs, lo, hi => some (.ok (.ow (cut xs lo hi)))
  | _, _, _ => none
def attrD (f : Nat) : D → Option An
  | .ins c ns xs => if P.fld c f then (lookF f ns xs).bind valA else none
  | _ => none
def lenD : D → Option An
  | .lst xs => valA (.int xs.length)
  | .tup xs => valA (.int xs.length)
  | .frz xs => valA (.int xs.length)
  | .str x => if x.length ≤ most then valA (.int x.length) else none
  | _ => none
def absD : D → Option An
  | .int i => valA (.int (if i < 0 then -i else i))
  | _ => none
def intD : D → Option An
  | .int i => valA (.int i)
  | .bl b => valA (.int (if b then 1 else 0))
  | _ => none
def tupleD : D → Option An
  | .lst xs => valA (.tup xs)
  | .tup xs => valA (.tup xs)
  | _ => none
def listD : D → Option An
  | .lst xs => some (.ok (.ow xs))
  | .tup xs => some (.ok (.ow xs))
  | _ => none
def boolsD (f : List Bool → Bool) : D → Option An
  | .lst xs => boolA ((boolsOf xs).map f)
  | _ => none
def sumD : D → Option An
  | .lst xs => (intsOf xs).bind fun is => valA (.int is.sum)
  | _ => none
def int2D (f : Int → Int → Int) : D → D → Option An
  | .int i, .int j => valA (.int (f i j))
  | _, _ => none
def maxI : List Int → Option Int
  | [] => none
  | i :: r => some (r.foldl max i)
def minI : List Int → Option Int
  | [] => none
  | i :: r => some (r.foldl min i)
def seqD : D → Option (List D)
  | .lst xs => some xs
  | .tup xs => some xs
  | _ => none
def bestD (f : List Int → Option Int) (d : D) : Option An := match seqD d with
  | some xs => if xs.length ≤ most then match intsOf xs with
    | some is => match f is with
      | some i => valA (.int i)
      | none => none
    | none => none
    else none
  | none => none
/-- what can be sorted -/
def alikeD (xs : List D) : Bool := xs.all fun d => xs.all fun e => PySem.W.alike (pyD d) (pyD e)
def isTupN : D → Bool
  | .tup (_ :: _) => true
  | _ => false
def isFlat : D → Bool
  | .bl _ => true | .int _ => true | .str _ => true
  | _ => false
def sortOk (xs : List D) : Bool := pls 4 xs && (alikeD xs && ((xs.all isTupN || xs.all isFlat) && decide (xs.length ≤ most)))
def sortL (xs : List D) : List D := xs.mergeSort (PySem.W.dataLe false pyD)
def sortD : D → Option An
  | .lst xs => if sortOk xs then some (.ok (.ow (sortL xs))) else none
  | _ => none
def gcdI (i j : Int) : Int := (Nat.gcd i.natAbs j.natAbs : Nat)
def opS : Op → List D → Option An
  | .add, [a, b] => addD P C a b
  | .sub, [a, b] => subD P C a b
  | .mul, [a, b] => mulD P C a b
  | .fdiv, [a, b] => fdivD a b
  | .mod, [a, b] => modD a b
  | .pow, [a, b] => powD a b
  | .shl, [a, b] => shlD a b
  | .neg, [a] => negD P C a
  | .eq, [a, b] => boolA (eqD P C a b)
  | .ne, [a, b] => boolA ((eqD P C a b).map not)
  | .lt, [a, b] => cmpD (fun i j => decide (i < j)) a b
  | .le, [a, b] => cmpD (fun i j => decide (i ≤ j)) a b
  | .gt, [a, b] => cmpD (fun i j => decide (j < i)) a b
  | .ge, [a, b] => cmpD (fun i j => decide (j ≤ i)) a b
  | .is, [a, b] => boolA (isD a b)
  | .isnot, [a, b] => boolA ((isD a b).map not)
  | .isin, [a, b] => boolA (inD a b)
  | .notin, [a, b] => boolA ((inD a b).map not)
  | .idx, [a, b] => idxD a b
  | .slice true true, [a, .int i, .int j] => sliceD a (some i) (some j)
  | .slice true false, [a, .int i] => sliceD a (some i) none
  | .slice false true, [a, .int j] => sliceD a none (some j)
  | .slice false false, [a] => sliceD a none none
  | .tup, xs => if xs.length ≤ most then valA (.tup xs) else none
  | .lst, xs => if xs.length ≤ most then some (.ok (.ow xs)) else none
  | .attr f, [a] => attrD P f a
  | .len, [a] => lenD a
  | .abs, [a] => absD a
  | .int, [a] => intD a
  | .tuple, [a] => tupleD a
  | .list, [a] => listD a
  | .any, [a] => boolsD (fun bs => bs.any id) a
  | .all, [a] => boolsD (fun bs => bs.all id) a
  | .sum, [a] => sumD a
  | .max1, [a] => bestD maxI a
  | .min1, [a] => bestD minI a
  | .sorted, [a] => sortD a
  | .gcd, [a, b] => int2D gcdI a b
  | .max, [a, b] => int2D (fun i j => if j > i then j else i) a b
  | .min, [a, b] => int2D (fun i j => if j < i then j else i) a b
  | .isa ts, [d] => boolA (isaD P d ts)
  | _, _ => none
def noC : Orc := fun _ _ => none
/-- what is borrowed is not handed on -/
def orc (o : Op) (ods : List OD) : Orc := match o, ods with
  | .isin, .d _ :: _ => C
  | .notin, .d _ :: _ => C
  | _, _ => if ods.all OD.isD then C else noC
/-- the operation keeps its operands -/
def Op.keeps : Op → Bool
  | .tup => true
  | .lst => true
  | _ => false
def lift (a : Option An) (ρ : EnvD) : Option (R EV) := match a with
  | none => none
  | some (.ok e) => some (.ok e ρ)
  | some (.ex x) => some (.ex x)

/-! ### calls -/
/-- what is handed for an operand -/
def arg (ρ : EnvD) : OD → Option EV
  | .d x => some (.fr x)
  | .b i => match get ρ i with
    | some (.fr d) => some (.fr d)
    | some (.ow xs) => some (.fr (.lst xs))
    | _ => none
  | .m i => match get ρ i with
    | some e => if e.flat then some e else none
    | none => none
def args (ρ : EnvD) : List OD → Option (List EV)
  | [] => some []
  | o :: os => match arg ρ o with
    | none => none
    | some d => match args ρ os with
      | none => none
      | some ds => some (d :: ds)
/-- the slots whose objects the parameters of the places mu take -/
def slotsAt (ods : List OD) : List Nat → Option (List Nat)
  | [] => some []
  | j :: js => match ods[j]? with
    | some (.m i) => (slotsAt ods js).map (i :: ·)
    | _ => none
/-- just those are handed so that they may change -/
def okM (mu : List Nat) : Nat → List OD → Bool
  | _, [] => true
  | j, o :: os => (o.isM == mu.contains j) && okM mu (j + 1) os
def putM : List Nat → List EV → EnvD → Option EnvD
  | [], [], ρ => some ρ
  | i :: is, e :: es, ρ => if e.flat then putM is es (ρ.set i (some e)) else none
  | _, _, _ => none
def EV.plain : EV → Bool
  | .fr d => noLst d
  | _ => false
def nodupB : List Nat → Bool
  | [] => true
  | i :: is => !is.contains i && nodupB is
def apply (f : Nat) (ods : List OD) (ρ : EnvD) : Option (R EV) := match P.fn f with
  | none => none
  | some F => match slotsAt ods F.mu with
    | none => none
    | some is => if okM F.mu 0 ods && nodupB is && (is.isEmpty || !ods.any OD.isB) then match args ρ ods with
        | none => none
        | some as => match C f as with
          | none => none
          | some (.exc x) => some (.ex x)
          | some (.ret e fin) => if ods.any OD.isB && !e.plain then none else match putM is fin ρ with
            | none => none
            | some ρ' => some (.ok e ρ')
      else none
def make (c : Nat) (ods : List OD) (ρ : EnvD) : Option (R EV) := if ods.all OD.isD then match views ρ ods with
    | none => none
    | some ds => match P.meth c mInit with
      | none => none
      | some f => match P.fn f with
        | none => none
        | some F => if F.mu = [0] then match C f (.oi c [] [] :: ds.map .fr) with
            | some (.ret (.fr .non) [.oi c' ns xs]) => if c' = c then some (.ok (.fr (.ins c ns xs)) ρ) else none
            | some (.exc x) => some (.ex x)
            | _ => none
          else none
  else none

/-! ### targets, loops -/
def setAll : List Nat → List D → EnvD → EnvD
  | i :: is, d :: ds, ρ => setAll is ds (ρ.set i (some (.fr d)))
  | _, _, ρ => ρ
def asgT (mu : List Nat) : Tg → EV → EnvD → Option EnvD
  | .nm i, e, ρ => if mu.contains i then none else some (ρ.set i (some e))
  | .tp is, .fr (.tup ds), ρ => if is.any mu.contains then none else if is.length = ds.length then some (setAll is ds ρ) else none
  | _, _, _ => none
/-- the list that a loop walks: its items; the slot that it is borrowed from -/
abbrev Src := List D × Option Nat
def itemsOf : D → Option (List D)
  | .lst xs => some xs
  | .tup xs => some xs
  | .frz xs => some xs
  | _ => none
def itemsB : EV → Option (List D)
  | .tb _ => none
  | e => itemsOf e.fz
def zipD : List D → List D → List D
  | x :: xs, y :: ys => .tup [x, y] :: zipD xs ys
  | _, _ => []
def rngD (lo : Int) (n : Nat) : List D := (List.range n).map fun k => .int (lo + (k : Nat))
def rngOk (i : Int) : Bool := decide (i.natAbs.log2 ≤ 39)
def same (b : Option Nat) (ρ ρ' : EnvD) : Prop := match b with
  | none => True
  | some i => get ρ' i = get ρ i
instance same_dec (b : Option Nat) (ρ ρ' : EnvD) : Decidable (same b ρ ρ') := match b with
  | none => .isTrue trivial
  | some _ => Classical.propDecidable _
def lcL (b : Option Nat) (step : D → EnvD → Option (R (Option D))) : List D → List D → EnvD → Option (R (List D))
  | [], acc, ρ => some (.ok acc ρ)
  | x :: xs, acc, ρ => bindR (step x ρ) fun r ρ' => if same b ρ ρ' then match r with
      | none => lcL b step xs acc ρ'
      | some y => if acc.length < most then lcL b step xs (acc ++ [y]) ρ' else none
    else none
def ltL (b : Option Nat) (step : D → EnvD → Option (R (List D))) : List D → List (List D) → EnvD → Option (R (List (List D)))
  | [], acc, ρ => some (.ok acc ρ)
  | x :: xs, acc, ρ => bindR (step x ρ) fun y ρ' => if same b ρ ρ' then (if acc.length < most then ltL b step xs (acc ++ [y]) ρ' else none) else none
/-- a number that is read off without a change -/
def calmE (ρ : EnvD) : E → Option Int
  | .cst (.int i) => some i
  | .var i => match get ρ i with
    | some (.fr (.int k)) => some k
    | _ => none
  | .op .add (.cons a (.cons b .nil)) => match calmE ρ a, calmE ρ b with
    | some i, some j => some (i + j)
    | _, _ => none
  | .op .sub (.cons a (.cons b .nil)) => match calmE ρ a, calmE ρ b with
    | some i, some j => some (i - j)
    | _, _ => none
  | _ => none
/-- rows[a][b] -/
def ix2D (xss : List (List D)) (a b : Int) : Option D := match ixD xss.length a with
  | some k => match xss[k]? with
    | some xs => match ixD xs.length b with
      | some j => xs[j]?
      | none => none
    | none => none
  | none => none
def set2D (xss : List (List D)) (a b : Int) (v : D) : Option (List (List D)) := match ixD xss.length a with
  | some k => match xss[k]? with
    | some xs => match ixD xs.length b with
      | some j => some (xss.set k (xs.set j v))
      | none => none
    | none => none
  | none => none
/-- a place is stored to -/
def asgL (mu : List Nat) (ρ : EnvD) (v : D) : Tl → Option EnvD
  | .nm i => if mu.contains i then none else some (ρ.set i (some (.fr v)))
  | .sub i x => match get ρ i, calmE ρ x with
    | some (.ow xs), some a => match ixD xs.length a with
      | some j => some (ρ.set i (some (.ow (xs.set j v))))
      | none => none
    | _, _ => none
  | .sub2 i x y => match get ρ i, calmE ρ x, calmE ρ y with
    | some (.tb xss), some a, some b => match set2D xss a b v with
      | some yss => some (ρ.set i (some (.tb yss)))
      | none => none
    | _, _, _ => none
def asgLs (mu : List Nat) : EnvD → List D → List Tl → Option EnvD
  | ρ, [], [] => some ρ
  | ρ, v :: vs, t :: ts => match asgL mu ρ v t with
    | some ρ' => asgLs mu ρ' vs ts
    | none => none
  | _, _, _ => none
def wipeD (ρ : EnvD) : List Nat → EnvD
  | [] => ρ
  | v :: vs => (wipeD ρ vs).set v none
def frzV (ρ : EnvD) (i : Nat) : Option EV → EnvD
  | some (.ow xs) => ρ.set i (some (.fr (.lst xs)))
  | some (.tb xss) => ρ.set i (some (.fr (.lst (xss.map .lst))))
  | _ => ρ
def frzD (ρ : EnvD) : List Nat → EnvD
  | [] => ρ
  | v :: vs => frzV (frzD ρ vs) v (get (frzD ρ vs) v)
def backD (ρ0 : EnvD) (ρ : EnvD) : List Nat → EnvD
  | [] => ρ
  | v :: vs => (backD ρ0 ρ vs).set v (ρ0[v]?.join)
def forL (b : Option Nat) (body : D → EnvD → Option F) : List D → EnvD → Option F
  | [], ρ => some (.nx ρ)
  | x :: xs, ρ => match body x ρ with
    | none => none
    | some (.nx ρ') => if same b ρ ρ' then forL b body xs ρ' else none
    | some r => some r
/-- while, so many turns at most -/
def whN (c : EnvD → Option (R Bool)) (b : EnvD → Option F) : Nat → EnvD → Option F
  | 0, _ => none
  | n + 1, ρ => match c ρ with
    | none => none
    | some (.ex x) => some (.ex x)
    | some (.ok false ρ') => some (.nx ρ')
    | some (.ok true ρ') => match b ρ' with
      | none => none
      | some (.nx ρ2) => whN c b n ρ2
      | some r => some r
open Classical in
def wh (c : EnvD → Option (R Bool)) (b : EnvD → Option F) (ρ : EnvD) : Option F := if h : ∃ n r, whN c b n ρ = some r then whN c b h.choose ρ else none

/-! ### the evaluator -/
def tst (m : Option (R EV)) : Option (R Bool) := bindR m fun v ρ => match truth v.fz with
  | none => none
  | some b => some (.ok b ρ)
mutual
def ev : E → EnvD → Option (R EV)
  | .cst d, ρ => if atom d then some (.ok (.fr d) ρ) else none
  | .var i, ρ => match get ρ i with
    | some (.fr d) => some (.ok (.fr d) ρ)
    | some (.ow xs) => some (.ok (.fr (.lst xs)) (ρ.set i (some (.fr (.lst xs)))))
    | some (.tb xss) => some (.ok (.fr (.lst (xss.map .lst))) (ρ.set i (some (.fr (.lst (xss.map .lst))))))
    | _ => none
  | .own i, ρ => match get ρ i with
    | some e => some (.ok e (ρ.set i none))
    | none => none
  | .bor _, _ => none
  | .mut _, _ => none
  | .glob g, ρ => match P.glob g with
    | some d => some (.ok (.fr d) ρ)
    | none => none
  | .op o es, ρ => bindR (evl es ρ) fun ods ρ1 => if o.keeps && !ods.all OD.isD then none else match views ρ1 ods with
    | none => none
    | some ds => lift (opS P (orc C o ods) o ds) ρ1
  | .and a b, ρ => bindR (ev a ρ) fun v ρ1 => match truth v.fz with
    | some true => ev b ρ1
    | some false => some (.ok (.fr v.fz) ρ1)
    | none => none
  | .or a b, ρ => bindR (ev a ρ) fun v ρ1 => match truth v.fz with
    | some true => some (.ok (.fr v.fz) ρ1)
    | some false => ev b ρ1
    | none => none
  | .not a, ρ => bindR (ev a ρ) fun v ρ1 => match truth v.fz with
    | some b => some (.ok (.fr (.bl (!b))) ρ1)
    | none => none
  | .ife c a b, ρ => bindR (tst (ev c ρ)) fun t ρ1 => match t with
    | true => ev a ρ1
    | false => ev b ρ1
  | .chain o o' a b c, ρ => bindR (ev a ρ) fun x ρ1 => bindR (ev b ρ1) fun y ρ2 => match opS P noC o [x.fz, y.fz] with
    | some (.ok (.fr (.bl true))) => bindR (ev c ρ2) fun z ρ3 => lift (opS P noC o' [y.fz, z.fz]) ρ3
    | some (.ok (.fr (.bl false))) => some (.ok (.fr (.bl false)) ρ2)
    | _ => none
  | .call f es, ρ => bindR (evl es ρ) fun ods ρ1 => apply P C f ods ρ1
  | .new c es, ρ => bindR (evl es ρ) fun ods ρ1 => make P C c ods ρ1
  | .meth m o es, ρ => bindR (ev o ρ) fun v ρ1 => match v.fz with
    | .ins c ns xs => match P.meth c m with
      | some f => bindR (evl es ρ1) fun ods ρ2 => apply P C f (.d (.ins c ns xs) :: ods) ρ2
      | none => none
    | _ => none
  | .lc own t it cs e, ρ => bindR (evI it ρ) fun src ρ1 =>
      match (lcL src.2 (fun x ρ => match asgT [] t (.fr x) ρ with
        | none => none
        | some ρ' => bindR (evC cs ρ') fun b ρ'' => match b with
          | false => some (.ok none (wipeD ρ'' own))
          | true => bindR (ev e ρ'') fun v ρ3 => some (.ok (some v.fz) (wipeD ρ3 own))) src.1 [] (wipeD ρ1 own)) with
      | some (.ok ys ρ2) => some (.ok (.ow ys) (backD ρ1 ρ2 own))
      | _ => none
  | .bad, _ => none
  | .lt own t it e, ρ => bindR (evI it ρ) fun src ρ1 =>
      match (ltL src.2 (fun x ρ => match asgT [] t (.fr x) ρ with
        | none => none
        | some ρ' => bindR (ev e ρ') fun v ρ3 => match v with
          | .ow ys => some (.ok ys (wipeD ρ3 own))
          | _ => none) src.1 [] (wipeD ρ1 own)) with
      | some (.ok yss ρ2) => some (.ok (.tb yss) (backD ρ1 ρ2 own))
      | _ => none
  | .lrg es, ρ => bindR (evl es ρ) fun ods ρ1 => match views ρ1 ods with
    | some [.int n] => if rngOk n && decide (n.toNat ≤ 10000) then some (.ok (.ow (rngD 0 n.toNat)) ρ1) else none
    | some [.int a, .int b] => if rngOk a && rngOk b && decide ((b - a).toNat ≤ 10000) then some (.ok (.ow (rngD a (b - a).toNat)) ρ1) else none
    | _ => none
  | .ix2 i x y, ρ => match get ρ i, calmE ρ x, calmE ρ y with
    | some (.tb xss), some a, some b => match ix2D xss a b with
      | some d => some (.ok (.fr d) ρ)
      | none => none
    | _, _, _ => none
  | .pop i es, ρ => match get ρ i with
    | some (.ow _) => bindR (evl es ρ) fun ods ρ1 => match get ρ1 i, views ρ1 ods with
      | some (.ow xs), some [] => match xs.getLast? with
        | some x => some (.ok (.fr x) (ρ1.set i (some (.ow xs.dropLast))))
        | none => none
      | some (.ow xs), some [.int k] => if xs.length ≤ most then match ixD xs.length k with
        | some j => match xs[j]? with
          | some x => some (.ok (.fr x) (ρ1.set i (some (.ow (xs.eraseIdx j)))))
          | none => none
        | none => none
        else none
      | _, _ => none
    | _ => none
def evl : Es → EnvD → Option (R (List OD))
  | .nil, ρ => some (.ok [] ρ)
  | .cons (.bor i) es, ρ => match get ρ i with
    | some _ => bindR (evl es ρ) fun ods ρ1 => some (.ok (.b i :: ods) ρ1)
    | none => none
  | .cons (.mut i) es, ρ => match get ρ i with
    | some _ => bindR (evl es ρ) fun ods ρ1 => some (.ok (.m i :: ods) ρ1)
    | none => none
  | .cons e es, ρ => bindR (ev e ρ) fun v ρ1 => bindR (evl es ρ1) fun ods ρ2 => some (.ok (.d v.fz :: ods) ρ2)
/-- a comprehension's tests -/
def evC : Es → EnvD → Option (R Bool)
  | .nil, ρ => some (.ok true ρ)
  | .cons e es, ρ => bindR (tst (ev e ρ)) fun b ρ1 => match b with
    | true => evC es ρ1
    | false => some (.ok false ρ1)
def evI : It → EnvD → Option (R Src)
  | .seq (.bor i), ρ => match get ρ i with
    | some e => match itemsB e with
      | some xs => some (.ok (xs, some i) ρ)
      | none => none
    | none => none
  | .seq e, ρ => bindR (ev e ρ) fun v ρ1 => match itemsOf v.fz with
    | some xs => some (.ok (xs, none) ρ1)
    | none => none
  | .rng es, ρ => bindR (evl es ρ) fun ods ρ1 => match views ρ1 ods with
    | some [.int n] => if rngOk n then some (.ok (rngD 0 n.toNat, none) ρ1) else none
    | some [.int a, .int b] => if rngOk a && rngOk b then some (.ok (rngD a (b - a).toNat, none) ρ1) else none
    | _ => none
  | .zip es, ρ => bindR (evl es ρ) fun ods ρ1 => if ods.all OD.isD then match views ρ1 ods with
      | some [.lst xs, .lst ys] => some (.ok (zipD xs ys, none) ρ1)
      | some [.tup xs, .tup ys] => some (.ok (zipD xs ys, none) ρ1)
      | _ => none
    else none
  | .enum _, _ => none
end
/-- what a suite says of the error -/
def suE : Su → Exn → Option D
  | .cst d, _ => if atom d then some d else none
  | .fld f, .mk c d => if P.exc c = true ∧ P.xf c = some f then some d else none
  | .ve, .mk c _ => if P.exc c = true ∧ P.xf c = none then some (.bl true) else none
  | .isa cs, .mk c _ => if P.exc c = true ∧ P.xf c = none ∧ cs ≠ [] then (isaX P c cs).map D.bl else none
  | .and a b, x => match suE a x with
    | some (.bl true) => suE b x
    | some (.bl false) => some (.bl false)
    | _ => none
  | .not a, x => match suE a x with
    | some (.bl b) => some (.bl (!b))
    | _ => none
  | .eq _ _, _ => none
  | .tup _, _ => none
def handle (x : Exn) (ρ : EnvD) : Hs → Option F
  | .nil => some (.ex x)
  | .ret c u hs => match x with
    | .mk c' d => match P.sub c' c with
      | some true => match suE P u x with
        | some v => some (.rt (.fr v) [])
        | none => none
      | some false => handle x ρ hs
      | none => none
  | .raise c c2 d2 hs => match x with
    | .mk c' d => match P.sub c' c with
      | some true => some (.ex (.mk c2 d2))
      | some false => handle x ρ hs
      | none => none
/-- xs[k] = v -/
def setE (ρ : EnvD) (i : Nat) (v : D) : EV → Option F
  | .fr (.int k) => match get ρ i with
    | some (.ow xs) => match ixD xs.length k with
      | some j => some (.nx (ρ.set i (some (.ow (xs.set j v)))))
      | none => none
    | _ => none
  | _ => none
/-- self.f = v -/
def fldE (ρ : EnvD) (i f : Nat) (v : D) : Option F := match get ρ i with
  | some (.oi c ns xs) => if ns.length < 100 then (if P.fld c f then some (.nx (ρ.set i (some (.oi c (putFD f v ns xs).1 (putFD f v ns xs).2)))) else none) else none
  | _ => none
def appE (ρ : EnvD) (i : Nat) (v : D) : Option F := match get ρ i with
  | some (.ow xs) => if xs.length < most then some (.nx (ρ.set i (some (.ow (xs ++ [v]))))) else none
  | _ => none
def extE (ρ : EnvD) (i : Nat) (v : D) : Option F := match get ρ i, v with
  | some (.ow xs), .lst ys => if xs.length + ys.length ≤ most then some (.nx (ρ.set i (some (.ow (xs ++ ys))))) else none
  | _, _ => none
def augE (ρ : EnvD) (i : Nat) (a : Int) : Op → D → Option F
  | .add, .int b => some (.nx (ρ.set i (some (.fr (.int (a + b))))))
  | .sub, .int b => some (.nx (ρ.set i (some (.fr (.int (a - b))))))
  | _, _ => none
mutual
def exec : S → List Nat → EnvD → Option F
  | .bad, _, _ => none
  | .pass, _, ρ => some (.nx ρ)
  | .asg t e, mu, ρ => bindF (ev P C e ρ) fun v ρ1 => match asgT mu t v ρ1 with
    | some ρ2 => some (.nx ρ2)
    | none => none
  | .par i j a b, mu, ρ => bindF (ev P C a ρ) fun v ρ1 => bindF (ev P C b ρ1) fun w ρ2 => if mu.contains i || mu.contains j || i == j then none else some (.nx ((ρ2.set i (some v)).set j (some w)))
  | .sub i x e, _, ρ => bindF (ev P C e ρ) fun v ρ1 => match get ρ1 i with
    | some (.ow _) => bindF (ev P C x ρ1) fun k ρ2 => setE ρ2 i v.fz k
    | _ => none
  | .fld i f e, _, ρ => bindF (ev P C e ρ) fun v ρ1 => fldE P ρ1 i f v.fz
  | .app i e, _, ρ => match get ρ i with
    | some (.ow _) => bindF (ev P C e ρ) fun v ρ1 => appE ρ1 i v.fz
    | _ => none
  | .ext i e, _, ρ => match get ρ i with
    | some (.ow _) => bindF (ev P C e ρ) fun v ρ1 => extE ρ1 i v.fz
    | _ => none
  | .expr e, _, ρ => bindF (ev P C e ρ) fun _ ρ1 => some (.nx ρ1)
  | .aug i o e, mu, ρ => match get ρ i with
    | some (.fr (.int a)) => bindF (ev P C e ρ) fun v ρ1 => if mu.contains i then none else augE ρ1 i a o v.fz
    | _ => none
  | .ret e, _, ρ => bindF (ev P C e ρ) fun v ρ1 => some (.rt v ρ1)
  | .retn, _, ρ => some (.rt (.fr .non) ρ)
  | .ifs c a b, mu, ρ => bindF (tst (ev P C c ρ)) fun t ρ1 => match t with
    | true => execs a mu ρ1
    | false => execs b mu ρ1
  | .for_ t it b, mu, ρ => bindF (evI P C it ρ) fun src ρ1 => forL src.2 (fun x ρ => match asgT (src.2.toList ++ mu) t (.fr x) ρ with
      | none => none
      | some ρ' => execs b (src.2.toList ++ mu) ρ') src.1 ρ1
  | .while_ c b, mu, ρ => wh (fun ρ => tst (ev P C c ρ)) (fun ρ => execs b mu ρ) ρ
  | .raise c es, _, ρ => bindF (evl P C es ρ) fun ods ρ1 => match views ρ1 ods with
    | some [d] => if atom d then some (.ex (.mk c d)) else none
    | _ => none
  | .st t e, mu, ρ => bindF (ev P C e ρ) fun v ρ1 => match asgL mu ρ1 v.fz t with
    | some ρ2 => some (.nx ρ2)
    | none => none
  | .sts ts es, mu, ρ => bindF (evl P C es ρ) fun ods ρ1 => if ods.all OD.isD && decide (2 ≤ ods.length) then match views ρ1 ods with
      | some ds => match asgLs mu ρ1 ds ts with
        | some ρ2 => some (.nx ρ2)
        | none => none
      | none => none
    else none
  | .try_ b hs, mu, ρ => match execs b mu ρ with
    | some (.ex x) => handle P x ρ hs
    | r => r
  | .kill vs, _, ρ => some (.nx (wipeD ρ vs))
  | .frz vs, _, ρ => some (.nx (frzD ρ vs))
def execs : Ss → List Nat → EnvD → Option F
  | .nil, _, ρ => some (.nx ρ)
  | .cons s ss, mu, ρ => match exec s mu ρ with
    | some (.nx ρ1) => execs ss mu ρ1
    | r => r
end
end
def fins (ρ : EnvD) : List Nat → Option (List EV)
  | [] => some []
  | i :: is => match get ρ i with
    | none => none
    | some e => if e.flat then match fins ρ is with
        | none => none
        | some es => some (e :: es)
      else none
def EV.isT : EV → Bool
  | .tb _ => true
  | _ => false
/-- the parameters that may change are handed so, the others not -/
def handed (mu : List Nat) : Nat → List EV → Bool
  | _, [] => true
  | j, e :: es => ((e.own == mu.contains j) && !e.isT) && handed mu (j + 1) es
/-- a call, so deep at most -/
def run (P : Prog) : Nat → Orc
  | 0, _, _ => none
  | k + 1, f, as => match P.fn f with
    | none => none
    | some F =>
      if (as.length ≤ F.np) ∧ as.length + F.dfl.length ≥ F.np ∧ handed F.mu 0 as = true ∧ F.np ≤ F.ns then
        match execs P (run P k) F.body F.mu ((as ++ (F.dfl.drop (as.length + F.dfl.length - F.np)).map EV.fr).map some ++ List.replicate (F.ns - F.np) none) with
        | none => none
        | some (.ex x) => some (.exc x)
        | some (.nx ρ) => (fins ρ F.mu).map fun es => .ret (.fr .non) es
        | some (.rt e ρ) => (fins ρ F.mu).map fun es => .ret e es
      else none
end
end Ev
/-! Ev 3: readings by the evaluator. -/
namespace Ev
open PySem PySem.Spec L2

/-- names of the text, by number -/
structure Tx where
  ca : Nat → Addr
  fn : Nat → Str
  mn : Nat → Str
  cn : Nat → Str
  gn : Nat → Str
  ln : Nat → Str
  fa : Nat → Addr
  fd : Nat → FuncData
  ps : Nat → List Str
  /-- an error's field -/
  xf : Nat → Option Nat
  /-- which defs, classes are names of the module -/
  tl : Nat → Bool
  tc : Nat → Bool
  gcd : Bool
  /-- the errors that are raised with a text alone -/
  xo : Nat → Bool
  /-- the classes that an except clause may name -/
  xh : Nat → Bool
abbrev Tx.gm (T : Tx) (K : PySem.W.Frag) : Gm := ⟨K, T.ca, T.fn⟩

def atomV : D → V
  | .bl b => .bl b
  | .int i => .int i
  | .str x => .str x
  | _ => .non
theorem Rep.atomV {G : Gm} {H : Hp} {d : D} (h : atom d = true) : Rep G H (atomV d) d := by
  cases d <;> first | exact .non | exact .bl _ | exact .int _ | exact .str _ | cases h
theorem Rep.atom_eq {G : Gm} {H : Hp} {v : V} {d : D} (h : Rep G H v d) (a : atom d = true) : v = Ev.atomV d := by
  cases h <;> first | rfl | cases a
/-- an error as it lies -/
def XR (T : Tx) : Exn → Value → Option Addr → Hp → Prop
  | .mk c x, cls, d, H => cls = .ref (T.ca c) ∧ match T.xf c with
    | some f => atom x = true ∧ ∃ a, d = some a ∧ H a = some (.xd [(T.fn f, atomV x)])
    | none => d = none

/-- a slot's own object was owned ahead, or is new; it is in no slot behind -/
def Mine (σ : St) (ρ : EnvD) (H : Hp) (ρ' : EnvD) (H' : Hp) (e : EV) (v : V) : Prop := ∀ a, Has H' e v a → (Own σ ρ H a ∨ H a = none) ∧ ¬ Own σ ρ' H' a

section
variable (T : Tx) (K : PySem.W.Frag) (W : WX)
def Raised (σ : St) (ρ : EnvD) (Hf H : Hp) (x : Exn) : Prop := ∀ cls d Hf' H', Stp (T.gm K) σ ρ Hf H σ [] Hf' H' → XR T x cls d H' → W cls d σ H'
/-- an expression's reading -/
def TX (r : EnvD → Option (R EV)) : TE := fun σ H Q => ∃ ρ Hf res, ER (T.gm K) σ ρ Hf H ∧ r ρ = some res ∧ match res with
  | .ok e ρ' => ∀ v Hf' H', Stp (T.gm K) σ ρ Hf H σ ρ' Hf' H' → SR (T.gm K) Hf' H' v e → Mine σ ρ H ρ' H' e v → Q v H'
  | .ex x => Raised T K W σ ρ Hf H x
/-- an operand as it is -/
def OR (G : Gm) (σ : St) (Hf : Hp) (v : V) : OD → Prop
  | .d x => Rep G Hf v x
  | .b i => σ[i]? = some (some v)
  | .m i => σ[i]? = some (some v)
def TO (r : EnvD → Option (R OD)) : TE := fun σ H Q => ∃ ρ Hf res, ER (T.gm K) σ ρ Hf H ∧ r ρ = some res ∧ match res with
  | .ok o ρ' => ∀ v Hf' H', Stp (T.gm K) σ ρ Hf H σ ρ' Hf' H' → OR (T.gm K) σ Hf' v o → Q v H'
  | .ex x => Raised T K W σ ρ Hf H x
inductive ORs (G : Gm) (σ : St) (Hf : Hp) : List V → List OD → Prop
  | nil : ORs G σ Hf [] []
  | cons {v : V} {vs : List V} {o : OD} {os : List OD} : OR G σ Hf v o → ORs G σ Hf vs os → ORs G σ Hf (v :: vs) (o :: os)
def TL (r : EnvD → Option (R (List OD))) : TA := fun σ H Q => ∃ ρ Hf res, ER (T.gm K) σ ρ Hf H ∧ r ρ = some res ∧ match res with
  | .ok os ρ' => ∀ vs Hf' H', Stp (T.gm K) σ ρ Hf H σ ρ' Hf' H' → ORs (T.gm K) σ Hf' vs os → Q vs H'
  | .ex x => Raised T K W σ ρ Hf H x
def TT' (r : EnvD → Option (R Bool)) : TT := fun σ H Q => ∃ ρ Hf res, ER (T.gm K) σ ρ Hf H ∧ r ρ = some res ∧ match res with
  | .ok b ρ' => ∀ Hf' H', Stp (T.gm K) σ ρ Hf H σ ρ' Hf' H' → Q b H'
  | .ex x => Raised T K W σ ρ Hf H x
end
/-- an operand's evaluation -/
noncomputable def evo (P : Prog) (C : Orc) (e : E) (ρ : EnvD) : Option (R OD) := match e with
  | .bor i => match get ρ i with
    | some _ => some (.ok (.b i) ρ)
    | none => none
  | .mut i => match get ρ i with
    | some _ => some (.ok (.m i) ρ)
    | none => none
  | e => bindR (ev P C e ρ) fun v ρ1 => some (.ok (.d v.fz) ρ1)
theorem evl_cons (P : Prog) (C : Orc) (e : E) (es : Es) (ρ : EnvD) : evl P C (.cons e es) ρ = bindR (evo P C e ρ) fun o ρ1 => bindR (evl P C es ρ1) fun os ρ2 => some (.ok (o :: os) ρ2) := by
  cases e <;> simp only [evl, evo, bindR] <;> first
    | rfl
    | (rename_i x; cases get ρ x <;> rfl)
    | (rename_i x; generalize ev P C _ ρ = m; cases m with | none => rfl | some r => cases r <;> rfl)
    | (generalize ev P C _ ρ = m; cases m with | none => rfl | some r => cases r <;> rfl)

section
variable {T : Tx} {K : PySem.W.Frag} {W : WX} {σ : St} {ρ ρ1 ρ2 : EnvD} {Hf H Hf1 H1 Hf2 H2 : Hp}
theorem Raised.step {x : Exn} (st : Stp (T.gm K) σ ρ Hf H σ ρ1 Hf1 H1) (h : Raised T K W σ ρ Hf H x) : Raised T K W σ ρ1 Hf1 H1 x :=
  fun cls d Hf' H' s r => h cls d Hf' H' (st.trans s) r
theorem Own.nil {a : Addr} : ¬ Own σ [] H a := fun ⟨i, e, v, h, _⟩ => by simp at h
theorem ER.nil {G : Gm} (s : Same Hf H) : ER G σ [] Hf H := ⟨s, fun i e h => by simp at h, fun i j e e' v w a h => by simp at h⟩
theorem Stp.toNil {G : Gm} (s : Stp G σ ρ Hf H σ ρ1 Hf1 H1) : Stp G σ ρ Hf H σ [] Hf1 H1 :=
  ⟨.nil s.er.sub, s.ext, s.frame, fun a h => s.acc a (h.elim (fun z => absurd z Own.nil) .inr)⟩
open Classical in
/-- with a value's own objects frozen -/
noncomputable def frzH (Hf H : Hp) (e : EV) (v : V) : Hp := fun b => if Has H e v b then H b else Hf b
theorem Rows.freeze {G : Gm} {Hf H Hf' : Hp} (ext : Same Hf Hf') : ∀ {vs : List V} {xss : List (List D)}, Rows G Hf H vs xss → (∀ b, V.ref b ∈ vs → Hf' b = H b) → Reps G Hf' vs (xss.map .lst)
  | _, _, .nil, _ => .nil
  | _, _, .cons h1 h2 h3 r, q => .cons (.lst ((q _ List.mem_cons_self).trans h2) (h3.mono ext)) (r.freeze ext fun b h => q b (List.mem_cons_of_mem _ h))
theorem SR.frzExt {G : Gm} {Hf H : Hp} {v : V} {e : EV} (h : SR G Hf H v e) : Same Hf (frzH Hf H e v) := fun b u q => by
  unfold frzH
  rw [if_neg fun z => by rw [(h.has z).1] at q; cases q]
  exact q
theorem SR.frzRep {G : Gm} {Hf H : Hp} {v : V} {e : EV} (h : SR G Hf H v e) : Rep G (frzH Hf H e v) v e.fz := by
  have ext := h.frzExt
  have at_ : ∀ {b}, Has H e v b → frzH Hf H e v b = H b := fun {b} z => if_pos z
  cases e with
  | fr d => exact Rep.mono ext h
  | ow xs => obtain ⟨a, vs, e, h1, h2, h3⟩ := h; subst e; exact .lst ((at_ rfl).trans h2) (h3.mono ext)
  | oi c ns xs => obtain ⟨a, dx, vs, e, h1, h2, h3, h4⟩ := h; subst e; exact .ins ((at_ rfl).trans h2) (h3.mono ext) h4
  | tb xss =>
    obtain ⟨a, vs, e, h1, h2, h3, h4⟩ := h
    subst e
    exact .lst ((at_ (.inl rfl)).trans h2) (h3.freeze ext fun b q => at_ (.inr ⟨a, vs, rfl, h2, q⟩))
theorem SR.fz {G : Gm} {v : V} {e : EV} (E : ER G σ ρ1 Hf1 H1) (h : SR G Hf1 H1 v e) (m : ∀ a, Has H1 e v a → ¬ Own σ ρ1 H1 a) :
    ∃ Hf2, Rep G Hf2 v e.fz ∧ ER G σ ρ1 Hf2 H1 ∧ Same Hf1 Hf2 ∧ ∀ a, Hf2 a ≠ none → Hf1 a ≠ none ∨ Has H1 e v a := by
  refine ⟨frzH Hf1 H1 e v, h.frzRep, ⟨fun b u q => ?_, fun i e' hi => ?_, E.apart⟩, h.frzExt, fun b n => ?_⟩
  · unfold frzH at q
    split at q
    · exact q
    · exact E.sub b u q
  · obtain ⟨w, g1, g2⟩ := E.slot i e' hi
    refine ⟨w, g1, g2.move (fun _ _ => rfl) (fun b q => ?_) h.frzExt⟩
    unfold frzH
    rw [if_neg fun z => m b z ⟨i, e', w, hi, g1, q⟩]
    exact (g2.has q).1
  · unfold frzH at n
    split at n
    · rename_i z; exact .inr z
    · exact .inl n
/-- what an expression hands out, frozen -/
theorem Stp.fz {G : Gm} {v : V} {e : EV} (s : Stp G σ ρ Hf H σ ρ1 Hf1 H1) (h : SR G Hf1 H1 v e) (m : Mine σ ρ H ρ1 H1 e v) : ∃ Hf2, Stp G σ ρ Hf H σ ρ1 Hf2 H1 ∧ Rep G Hf2 v e.fz := by
  obtain ⟨Hf2, r, E, x, a⟩ := h.fz s.er fun a h1 => (m a h1).2
  refine ⟨Hf2, ⟨E, s.ext.trans x, s.frame, fun b n => ?_⟩, r⟩
  rcases n with n | n
  · exact s.acc b (.inl n)
  · rcases a b n with z | z
    · exact s.acc b (.inr z)
    · exact (m b z).1.elim .inl fun z => .inr (.inr z)
theorem OR.mono {G : Gm} {v : V} {o : OD} (x : Same Hf Hf1) (h : OR G σ Hf v o) : OR G σ Hf1 v o := by
  cases o with
  | d y => exact Rep.mono x h
  | b i => exact h
  | m i => exact h
theorem ORs.mono {G : Gm} (x : Same Hf Hf1) : ∀ {vs : List V} {os : List OD}, ORs G σ Hf vs os → ORs G σ Hf1 vs os
  | _, _, .nil => .nil
  | _, _, .cons h r => .cons (h.mono x) (r.mono x)

variable {X : Cx} {e : Expr} {t t' : TE}
theorem _root_.L2.PE.weak (h : PE X e t) (w : ∀ σ H Q, t' σ H Q → t σ H Q) : PE X e t' := ⟨fun pins s σ H Q I q => h.run pins s σ H Q I (w _ _ _ q)⟩
theorem _root_.L2.PA.weak {es : List Expr} {t t' : TA} (h : PA X es t) (w : ∀ σ H Q, t' σ H Q → t σ H Q) : PA X es t' := ⟨fun pos pins s σ H Q I q => h.run pos pins s σ H Q I (w _ _ _ q)⟩
theorem _root_.L2.PT.weak {t t' : TT} (h : PT X e t) (w : ∀ σ H Q, t' σ H Q → t σ H Q) : PT X e t' := ⟨fun pins s σ H Q I q => h.run pins s σ H Q I (w _ _ _ q)⟩
theorem _root_.L2.PW.weak {t t' : TT} (h : PW X e t) (w : ∀ σ H Q, t' σ H Q → t σ H Q) : PW X e t' := ⟨fun wh pins s σ H Q I q => h.run wh pins s σ H Q I (w _ _ _ q)⟩
theorem _root_.L2.PS.weak {st : Stmt} {t t' : TS} (h : PS X st t) (w : ∀ D σ H, t' D σ H → t D σ H) : PS X st t' := ⟨fun pins s σ H D I q => h.run pins s σ H D I (w _ _ _ q)⟩
theorem _root_.L2.PSs.weak {st : List Stmt} {t t' : TS} (h : PSs X st t) (w : ∀ D σ H, t' D σ H → t D σ H) : PSs X st t' := ⟨fun pins s σ H D I q => h.run pins s σ H D I (w _ _ _ q)⟩

/-- first one, then the other -/
theorem TX.bind {β : Type} {r : EnvD → Option (R EV)} {k : EV → EnvD → Option (R β)} {Q : V → Hp → Prop}
    (E : ER (T.gm K) σ ρ Hf H) {res : R β} (h : bindR (r ρ) k = some res)
    (ok : ∀ e ρ1 v Hf1 H1, k e ρ1 = some res → Stp (T.gm K) σ ρ Hf H σ ρ1 Hf1 H1 → SR (T.gm K) Hf1 H1 v e → Mine σ ρ H ρ1 H1 e v → Q v H1)
    (ex : ∀ x, res = .ex x → Raised T K W σ ρ Hf H x) : TX T K W r σ H Q := by
  cases hr : r ρ with
  | none => rw [hr] at h; cases h
  | some y =>
    cases y with
    | ex x =>
      rw [hr] at h
      have h' : some (R.ex x) = some res := h
      exact ⟨ρ, Hf, _, E, hr, ex x (Option.some.inj h').symm⟩
    | ok e ρ1 =>
      rw [hr] at h
      exact ⟨ρ, Hf, _, E, hr, fun v Hf1 H1 s q m => ok e ρ1 v Hf1 H1 h s q m⟩
theorem TO.bind {β : Type} {r : EnvD → Option (R OD)} {k : OD → EnvD → Option (R β)} {Q : V → Hp → Prop}
    (E : ER (T.gm K) σ ρ Hf H) {res : R β} (h : bindR (r ρ) k = some res)
    (ok : ∀ o ρ1 v Hf1 H1, k o ρ1 = some res → Stp (T.gm K) σ ρ Hf H σ ρ1 Hf1 H1 → OR (T.gm K) σ Hf1 v o → Q v H1)
    (ex : ∀ x, res = .ex x → Raised T K W σ ρ Hf H x) : TO T K W r σ H Q := by
  cases hr : r ρ with
  | none => rw [hr] at h; cases h
  | some y =>
    cases y with
    | ex x =>
      rw [hr] at h
      have h' : some (R.ex x) = some res := h
      exact ⟨ρ, Hf, _, E, hr, ex x (Option.some.inj h').symm⟩
    | ok e ρ1 =>
      rw [hr] at h
      exact ⟨ρ, Hf, _, E, hr, fun v Hf1 H1 s q => ok e ρ1 v Hf1 H1 h s q⟩
theorem TL.bind {β : Type} {r : EnvD → Option (R (List OD))} {k : List OD → EnvD → Option (R β)} {Q : List V → Hp → Prop}
    (E : ER (T.gm K) σ ρ Hf H) {res : R β} (h : bindR (r ρ) k = some res)
    (ok : ∀ o ρ1 v Hf1 H1, k o ρ1 = some res → Stp (T.gm K) σ ρ Hf H σ ρ1 Hf1 H1 → ORs (T.gm K) σ Hf1 v o → Q v H1)
    (ex : ∀ x, res = .ex x → Raised T K W σ ρ Hf H x) : TL T K W r σ H Q := by
  cases hr : r ρ with
  | none => rw [hr] at h; cases h
  | some y =>
    cases y with
    | ex x =>
      rw [hr] at h
      have h' : some (R.ex x) = some res := h
      exact ⟨ρ, Hf, _, E, hr, ex x (Option.some.inj h').symm⟩
    | ok e ρ1 =>
      rw [hr] at h
      exact ⟨ρ, Hf, _, E, hr, fun v Hf1 H1 s q => ok e ρ1 v Hf1 H1 h s q⟩
end
end Ev
/-! Ev 4: names, operands. -/
namespace Ev
open PySem PySem.Spec L2

theorem get_some {ρ : EnvD} {i : Nat} {e : EV} (h : get ρ i = some e) : ρ[i]? = some (some e) := by
  unfold get at h
  cases q : ρ[i]? with
  | none => rw [q] at h; cases h
  | some o =>
    rw [q] at h
    cases o with
    | none => cases h
    | some e' => cases h; rfl
theorem get_of {ρ : EnvD} {i : Nat} {e : EV} (h : ρ[i]? = some (some e)) : get ρ i = some e := by
  unfold get; rw [h]
theorem set_get_ne {α : Type} {l : List α} {i j : Nat} {x y : α} (h : i ≠ j) (e : (l.set i x)[j]? = some y) : l[j]? = some y := by
  rw [List.getElem?_set_ne h] at e; exact e
theorem lt_of_get {α : Type} {l : List α} {i : Nat} {x : α} (h : l[i]? = some x) : i < l.length := by
  rcases Nat.lt_or_ge i l.length with z | z
  · exact z
  · rw [List.getElem?_eq_none z] at h; cases h

section
variable {G : Gm} {σ : St} {ρ : EnvD} {Hf H : Hp} {i : Nat}
/-- a slot is forgotten -/
theorem forget_back {j : Nat} {e : EV} (h : (ρ.set i none)[j]? = some (some e)) : j ≠ i ∧ ρ[j]? = some (some e) := by
  by_cases q : i = j
  · subst q
    rcases Nat.lt_or_ge i ρ.length with z | z
    · rw [List.getElem?_set_self z] at h; cases h
    · rw [List.getElem?_eq_none (by simpa using z)] at h; cases h
  · exact ⟨fun z => q z.symm, set_get_ne q h⟩
theorem ER.forget (E : ER G σ ρ Hf H) : ER G σ (ρ.set i none) Hf H :=
  ⟨E.sub, fun j e h => E.slot j e (forget_back h).2, fun j k e e' v w a h1 h2 h3 h4 h5 h6 => E.apart j k e e' v w a (forget_back h1).2 (forget_back h2).2 h3 h4 h5 h6⟩
theorem Own.unforget {a : Addr} (h : Own σ (ρ.set i none) H a) : Own σ ρ H a := by
  obtain ⟨j, e, v, h1, h2, h3⟩ := h
  exact ⟨j, e, v, (forget_back h1).2, h2, h3⟩
theorem Stp.forget (E : ER G σ ρ Hf H) : Stp G σ ρ Hf H σ (ρ.set i none) Hf H :=
  ⟨E.forget, Same.refl _, fun _ _ h _ => h, fun a h => h.elim (fun z => .inl z.unforget) fun z => .inr (.inl z)⟩
/-- a slot's own things are its own no more -/
theorem Stp.share {e : EV} (E : ER G σ ρ Hf H) (h : ρ[i]? = some (some e)) : ∃ v, σ[i]? = some (some v) ∧
    Stp G σ ρ Hf H σ (ρ.set i (some (.fr e.fz))) (frzH Hf H e v) H ∧ Rep G (frzH Hf H e v) v e.fz := by
  obtain ⟨v, h1, h2⟩ := E.slot i _ h
  have ext := h2.frzExt
  have key : ∀ {j : Nat} {e' : EV}, (ρ.set i (some (.fr e.fz)))[j]? = some (some e') → (j = i ∧ e' = .fr e.fz) ∨ (j ≠ i ∧ ρ[j]? = some (some e')) := fun {j e'} q => by
    by_cases z : i = j
    · subst z
      rw [List.getElem?_set_self (lt_of_get h)] at q
      cases q
      exact .inl ⟨rfl, rfl⟩
    · exact .inr ⟨fun y => z y.symm, set_get_ne z q⟩
  have own : ∀ {b}, Own σ (ρ.set i (some (.fr e.fz))) H b → Own σ ρ H b := fun {b} ⟨j, e', w, g1, g2, g3⟩ => by
    rcases key g1 with ⟨z1, z2⟩ | ⟨z1, z2⟩
    · subst z2; exact g3.fr.elim
    · exact ⟨j, e', w, z2, g2, g3⟩
  refine ⟨v, h1, ⟨⟨fun b u q => ?_, fun j e' hj => ?_, fun j k e e' v w b g1 g2 g3 g4 g5 g6 => ?_⟩, ext, fun _ _ h _ => h, fun b n => ?_⟩, h2.frzRep⟩
  · unfold frzH at q
    split at q
    · exact q
    · exact E.sub b u q
  · rcases key hj with ⟨z1, z2⟩ | ⟨z1, z2⟩
    · subst z1; subst z2; exact ⟨v, h1, h2.frzRep⟩
    · obtain ⟨w, g1, g2⟩ := E.slot j e' z2
      refine ⟨w, g1, g2.move (fun _ _ => rfl) (fun b q => ?_) ext⟩
      unfold frzH
      rw [if_neg fun z => z1 (E.apart j i e' e w v b z2 h g1 h1 q z)]
      exact (g2.has q).1
  · rcases key g1 with ⟨z1, z2⟩ | ⟨z1, z2⟩
    · subst z2; exact g5.fr.elim
    · rcases key g2 with ⟨y1, y2⟩ | ⟨y1, y2⟩
      · subst y2; exact g6.fr.elim
      · exact E.apart j k _ _ v w b z2 y2 g3 g4 g5 g6
  · rcases n with n | n
    · exact .inl (own n)
    · unfold frzH at n
      split at n
      · rename_i z; exact .inl ⟨i, e, v, h, h1, z⟩
      · exact .inr (.inl n)
end

section
variable {T : Tx} {P : Prog} {C : Orc} {X : Cx} {W : WX} {e : Expr} {pos : Pos}
theorem Mine.fr {σ : St} {ρ ρ' : EnvD} {H H' : Hp} {d : D} {v : V} : Mine σ ρ H ρ' H' (.fr d) v := fun _ h => h.fr.elim
theorem x_cst {d : D} (h : PE X e (tC (atomV d))) : PE X e (TX T X.K W (ev P C (.cst d))) := h.weak fun σ H Q q => by
  obtain ⟨ρ, Hf, res, E, h1, h2⟩ := q
  rw [ev] at h1
  by_cases a : atom d = true
  · rw [if_pos a] at h1
    cases h1
    exact h2 _ _ _ (.refl E) (Rep.atomV a) .fr
  · rw [if_neg a] at h1; cases h1
theorem x_var {i : Nat} (h : PE X e (tVar i)) : PE X e (TX T X.K W (ev P C (.var i))) := h.weak fun σ H Q q => by
  obtain ⟨ρ, Hf, res, E, h1, h2⟩ := q
  rw [ev] at h1
  cases g : get ρ i with
  | none => rw [g] at h1; cases h1
  | some x =>
    rw [g] at h1
    cases x with
    | fr d =>
      cases h1
      obtain ⟨v, e1, e2⟩ := E.slot i _ (get_some g)
      exact ⟨v, e1, h2 v _ _ (.refl E) e2 .fr⟩
    | ow xs =>
      cases h1
      obtain ⟨a, e1, st, r⟩ := Stp.share E (get_some g)
      exact ⟨_, e1, h2 _ _ _ st r .fr⟩
    | tb xss =>
      cases h1
      obtain ⟨a, e1, st, r⟩ := Stp.share E (get_some g)
      exact ⟨_, e1, h2 _ _ _ st r .fr⟩
    | oi c ns xs => cases h1
theorem x_own {i : Nat} (h : PE X e (tVar i)) : PE X e (TX T X.K W (ev P C (.own i))) := h.weak fun σ H Q q => by
  obtain ⟨ρ, Hf, res, E, h1, h2⟩ := q
  rw [ev] at h1
  cases g : get ρ i with
  | none => rw [g] at h1; cases h1
  | some x =>
    rw [g] at h1
    cases h1
    obtain ⟨v, e1, e2⟩ := E.slot i _ (get_some g)
    refine ⟨v, e1, h2 v _ _ (.forget E) e2 fun a ho => ⟨.inl ⟨i, x, v, get_some g, e1, ho⟩, fun z => ?_⟩⟩
    obtain ⟨j, e', w, g1, g2, g3⟩ := z
    obtain ⟨k1, k2⟩ := forget_back g1
    exact k1 (E.apart j i _ _ _ _ a k2 (get_some g) g2 e1 g3 ho)
theorem x_glob {g : Nat} {u : V} (h : PE X e (tC u)) (hr : ∀ d, P.glob g = some d → ∀ H, Rep (T.gm X.K) H u d) : PE X e (TX T X.K W (ev P C (.glob g))) := h.weak fun σ H Q q => by
  obtain ⟨ρ, Hf, res, E, h1, h2⟩ := q
  rw [ev] at h1
  cases g' : P.glob g with
  | none => rw [g'] at h1; cases h1
  | some d =>
    rw [g'] at h1
    cases h1
    exact h2 _ _ _ (.refl E) (hr d g' Hf) .fr

/-- an operand: a name that is borrowed, anything else frozen -/
theorem x_opd {e' : E} (h : PE X e (TX T X.K W (ev P C e'))) (hb : ∀ i, e' ≠ .bor i) (hm : ∀ i, e' ≠ .mut i) : PE X e (TO T X.K W (evo P C e')) := h.weak fun σ H Q q => by
  obtain ⟨ρ, Hf, res, E, h1, h2⟩ := q
  have e1 : evo P C e' ρ = bindR (ev P C e' ρ) fun v ρ1 => some (.ok (.d v.fz) ρ1) := by
    cases e' <;> first | rfl | exact absurd rfl (hb _) | exact absurd rfl (hm _)
  rw [e1] at h1
  refine TX.bind E h1 (fun x ρ1 v Hf1 H1 k st sr mi => ?_) fun x hx => by subst hx; exact h2
  cases k
  obtain ⟨Hf2, st2, r2⟩ := st.fz sr mi
  exact h2 v Hf2 H1 st2 r2
theorem x_bor {i : Nat} (h : PE X e (tVar i)) : PE X e (TO T X.K W (evo P C (.bor i))) := h.weak fun σ H Q q => by
  obtain ⟨ρ, Hf, res, E, h1, h2⟩ := q
  simp only [evo] at h1
  cases g : get ρ i with
  | none => rw [g] at h1; cases h1
  | some x =>
    rw [g] at h1
    cases h1
    obtain ⟨v, e1, e2⟩ := E.slot i _ (get_some g)
    exact ⟨v, e1, h2 v _ _ (.refl E) e1⟩
theorem x_mut {i : Nat} (h : PE X e (tVar i)) : PE X e (TO T X.K W (evo P C (.mut i))) := h.weak fun σ H Q q => by
  obtain ⟨ρ, Hf, res, E, h1, h2⟩ := q
  simp only [evo] at h1
  cases g : get ρ i with
  | none => rw [g] at h1; cases h1
  | some x =>
    rw [g] at h1
    cases h1
    obtain ⟨v, e1, e2⟩ := E.slot i _ (get_some g)
    exact ⟨v, e1, h2 v _ _ (.refl E) e1⟩

/-! ### lists of operands -/
theorem x_nil : PA X [] (TL T X.K W (evl P C .nil)) := pa_nil.weak fun σ H Q q => by
  obtain ⟨ρ, Hf, res, E, h1, h2⟩ := q
  rw [evl] at h1
  cases h1
  exact h2 [] _ _ (.refl E) .nil
/-- the first operand, the others -/
theorem TL.cons {e' : E} {es' : Es} {σ : St} {H : Hp} {Q : List V → Hp → Prop} {K : PySem.W.Frag} (q : TL T K W (evl P C (.cons e' es')) σ H Q) :
    TO T K W (evo P C e') σ H fun x H1 => TL T K W (evl P C es') σ H1 fun xs H2 => Q (x :: xs) H2 := by
  obtain ⟨ρ, Hf, res, E, h1, h2⟩ := q
  rw [evl_cons] at h1
  refine TO.bind E h1 (fun o ρ1 v Hf1 H1 k st or => ?_) fun x hx => by subst hx; exact h2
  refine TL.bind st.er k (fun os ρ2 vs Hf2 H2 k2 st2 ors => ?_) fun x hx => by subst hx; exact Raised.step st h2
  cases k2
  exact h2 (v :: vs) Hf2 H2 (st.trans st2) (.cons (or.mono st2.ext) ors)
theorem TL.nil {σ : St} {H : Hp} {Q : List V → Hp → Prop} {K : PySem.W.Frag} (q : TL T K W (evl P C .nil) σ H Q) : Q [] H := by
  obtain ⟨ρ, Hf, res, E, h1, h2⟩ := q
  rw [evl] at h1
  cases h1
  exact h2 [] _ _ (.refl E) .nil
theorem x_cons {e' : E} {es' : Es} {es : List Expr} (h : PE X e (TO T X.K W (evo P C e'))) (hs : PA X es (TL T X.K W (evl P C es')))
    (hst : starEach (e :: es) X.env = (false, eval e X.env) :: starEach es X.env) : PA X (e :: es) (TL T X.K W (evl P C (.cons e' es'))) :=
  (pa_cons h hs hst).weak fun σ H Q q => TL.cons q
/-- an operation over its operands -/
theorem TL.op {o : Op} {es' : Es} {σ : St} {H : Hp} {Q : V → Hp → Prop} {K : PySem.W.Frag} (q : TX T K W (ev P C (.op o es')) σ H Q) :
    TL T K W (evl P C es') σ H fun vs H1 => ∃ ρ1 Hf1 ods ds an, ER (T.gm K) σ ρ1 Hf1 H1 ∧ ORs (T.gm K) σ Hf1 vs ods ∧ (o.keeps = true → ods.all OD.isD = true) ∧ views ρ1 ods = some ds ∧ opS P (orc C o ods) o ds = some an ∧ match an with
      | .ok r => ∀ v Hf' H', Gr Hf1 H1 Hf' H' → SR (T.gm K) Hf' H' v r → (∀ a, Has H' r v a → H1 a = none) → Q v H'
      | .ex x => Raised T K W σ ρ1 Hf1 H1 x := by
  obtain ⟨ρ, Hf, res, E, h1, h2⟩ := q
  rw [ev] at h1
  refine TL.bind E h1 (fun ods ρ1 vs Hf1 H1 k st ors => ?_) fun x hx => by subst hx; exact h2
  by_cases c : (o.keeps && !ods.all OD.isD) = true
  · rw [if_pos c] at k; cases k
  rw [if_neg c] at k
  cases hv : views ρ1 ods with
  | none => rw [hv] at k; cases k
  | some ds =>
    rw [hv] at k
    have k2 : lift (opS P (orc C o ods) o ds) ρ1 = some res := k
    cases ho : opS P (orc C o ods) o ds with
    | none => rw [ho] at k2; cases k2
    | some an =>
      rw [ho] at k2
      refine ⟨ρ1, Hf1, ods, ds, an, st.er, ors, fun hk => ?_, hv, ho, ?_⟩
      · cases q : ods.all OD.isD with
        | true => rfl
        | false => exact absurd (by rw [hk, q]; rfl) c
      cases an with
      | ok r =>
        cases k2
        intro v Hf' H' g sr new
        refine h2 v Hf' H' (st.trans (g.stp st.er)) sr fun a ho => ⟨?_, fun z => ?_⟩
        · cases q : H a with
          | none => exact .inr rfl
          | some ob =>
            by_cases n : Own σ ρ H a
            · exact .inl n
            · have := st.frame a ob q n
              rw [new a ho] at this; cases this
        · obtain ⟨ob, q⟩ := (st.er.own ((Own.grow st.er g.grow).mp z)).2
          rw [new a ho] at q; cases q
      | ex x =>
        cases k2
        exact Raised.step st h2
end
end Ev
/-! Ev 5: operations on values. -/
namespace Ev
open PySem PySem.Spec L2

/-- how a value that is read (borrowed, too) is borne -/
def RB (G : Gm) (Hf H : Hp) (v : V) : D → Prop
  | .lst xs => ∃ a vs, v = .ref a ∧ H a = some (.lst vs) ∧ Reps G Hf vs xs
  | .ins c ns xs => ∃ a dx vs, v = .ref a ∧ H a = some (.ins (G.ca c) dx ((ns.map G.fn).zip vs)) ∧ Reps G Hf vs xs ∧ ns.length = vs.length
  | d => Rep G Hf v d
theorem RB.of {G : Gm} {Hf H : Hp} {v : V} {d : D} (s : Same Hf H) (r : Rep G Hf v d) : RB G Hf H v d := by
  cases r with
  | lst h r => exact ⟨_, _, rfl, s _ _ h, r⟩
  | ins h r l => exact ⟨_, _, _, rfl, s _ _ h, r, l⟩
  | non => exact .non
  | bl b => exact .bl b
  | int i => exact .int i
  | str x => exact .str x
  | tup h r => exact .tup h r
  | frz h r => exact .frz h r
theorem RB.view {G : Gm} {σ : St} {ρ : EnvD} {Hf H : Hp} {v : V} {o : OD} {d : D} (E : ER G σ ρ Hf H) (h : OR G σ Hf v o) (q : Ev.view ρ o = some d) : RB G Hf H v d := by
  cases o with
  | d x => cases q; exact .of E.sub h
  | m i => cases q
  | b i =>
    simp only [Ev.view] at q
    cases g : get ρ i with
    | none => rw [g] at q; cases q
    | some e =>
      rw [g] at q
      have q : e.isT = false ∧ d = e.fz := by cases e <;> cases q <;> exact ⟨rfl, rfl⟩
      obtain ⟨nt, rfl⟩ := q
      obtain ⟨w, e1, e2⟩ := E.slot i e (get_some g)
      have h' : σ[i]? = some (some v) := h
      rw [h'] at e1
      cases e1
      cases e with
      | fr d => exact .of E.sub e2
      | ow xs => obtain ⟨a, vs, q1, q2, q3, q4⟩ := e2; exact ⟨a, vs, q1, q3, q4⟩
      | oi c ns xs => obtain ⟨a, dx, vs, q1, q2, q3, q4, q5⟩ := e2; exact ⟨a, dx, vs, q1, q3, q4, q5⟩
      | tb xss => cases nt
inductive RBs (G : Gm) (Hf H : Hp) : List V → List D → Prop
  | nil : RBs G Hf H [] []
  | cons {v : V} {vs : List V} {d : D} {ds : List D} : RB G Hf H v d → RBs G Hf H vs ds → RBs G Hf H (v :: vs) (d :: ds)
theorem RBs.views {G : Gm} {σ : St} {ρ : EnvD} {Hf H : Hp} (E : ER G σ ρ Hf H) : ∀ {vs : List V} {os : List OD} {ds : List D}, ORs G σ Hf vs os → Ev.views ρ os = some ds → RBs G Hf H vs ds
  | _, _, _, .nil, q => by cases q; exact .nil
  | _, _, _, .cons (o := o) (os := os) h r, q => by
    unfold Ev.views at q
    cases g : Ev.view ρ o with
    | none => rw [g] at q; cases q
    | some d =>
      rw [g] at q
      cases g2 : Ev.views ρ os with
      | none => rw [g2] at q; cases q
      | some ds =>
        rw [g2] at q
        cases q
        exact .cons (.view E h g) (RBs.views E r g2)
theorem Reps.all {G : Gm} {σ : St} {ρ : EnvD} {Hf : Hp} : ∀ {vs : List V} {os : List OD} {ds : List D}, ORs G σ Hf vs os → os.all OD.isD = true → Ev.views ρ os = some ds → Reps G Hf vs ds
  | _, _, _, .nil, _, q => by cases q; exact .nil
  | _, _, _, .cons (o := o) (os := os) h r, a, q => by
    rw [List.all_cons, Bool.and_eq_true] at a
    cases o with
    | b i => cases a.1
    | m i => cases a.1
    | d x =>
      unfold Ev.views at q
      cases g2 : Ev.views ρ os with
      | none => rw [g2] at q; cases q
      | some ds =>
        rw [g2] at q
        cases q
        exact .cons h (Reps.all r a.2 g2)

/-- what is wanted behind an operation -/
def Fin (T : Tx) (K : PySem.W.Frag) (W : WX) (σ : St) (ρ1 : EnvD) (Hf1 H1 : Hp) (Q : V → Hp → Prop) : An → Prop
  | .ok r => ∀ v Hf' H', Gr Hf1 H1 Hf' H' → SR (T.gm K) Hf' H' v r → (∀ a, Has H' r v a → H1 a = none) → Q v H'
  | .ex x => Raised T K W σ ρ1 Hf1 H1 x
/-- which operands are frozen -/
def Frz (G : Gm) (Hf : Hp) (o : Op) (C C' : Orc) (vs : List V) (ds : List D) : Prop := C' = noC ∨ (C' = C ∧ (Reps G Hf vs ds ∨ ((o = .isin ∨ o = .notin) ∧ ∃ v d, vs.head? = some v ∧ ds.head? = some d ∧ Rep G Hf v d)))
/-- an operation on values, as it stands at its operands' end -/
def OpQ (T : Tx) (P : Prog) (C : Orc) (K : PySem.W.Frag) (W : WX) (σ : St) (o : Op) (vs : List V) (H : Hp) (Q : V → Hp → Prop) : Prop :=
  ∃ ρ1 Hf1 ds C' an, ER (T.gm K) σ ρ1 Hf1 H ∧ RBs (T.gm K) Hf1 H vs ds ∧ (o.keeps = true → Reps (T.gm K) Hf1 vs ds) ∧ Frz (T.gm K) Hf1 o C C' vs ds ∧ opS P C' o ds = some an ∧ Fin T K W σ ρ1 Hf1 H Q an
section
variable {T : Tx} {P : Prog} {C : Orc} {K : PySem.W.Frag} {W : WX} {σ : St} {H : Hp} {Q : V → Hp → Prop}
theorem TX.op {o : Op} {es' : Es} (q : TX T K W (ev P C (.op o es')) σ H Q) : TL T K W (evl P C es') σ H fun vs H1 => OpQ T P C K W σ o vs H1 Q := by
  have q2 := TL.op q
  obtain ⟨ρ, Hf, res, E, h1, h2⟩ := q2
  refine ⟨ρ, Hf, res, E, h1, ?_⟩
  cases res with
  | ex x => exact h2
  | ok os ρ' =>
    intro vs Hf' H' st ors
    obtain ⟨ρ1, Hf1, ods, ds, an, E1, ors1, hk, hv, ho, fin⟩ := h2 vs Hf' H' st ors
    refine ⟨ρ1, Hf1, ds, _, an, E1, .views E1 ors1 hv, fun k => .all ors1 (hk k) hv, ?_, ho, ?_⟩
    · have gen : (if ods.all OD.isD then C else noC) = orc C o ods → Frz (T.gm K) Hf1 o C (orc C o ods) vs ds := fun e => by
        rw [← e]
        cases a : ods.all OD.isD with
        | true => exact .inr ⟨rfl, .inl (.all ors1 a hv)⟩
        | false => exact .inl rfl
      have first : ∀ (x : D) (r : List OD), ods = .d x :: r → (o = .isin ∨ o = .notin) → orc C o ods = C → Frz (T.gm K) Hf1 o C (orc C o ods) vs ds := fun x r e oo e2 => by
        rw [e2]
        refine .inr ⟨rfl, .inr ⟨oo, ?_⟩⟩
        subst e
        cases ors1 with
        | cons h r' =>
          unfold Ev.views at hv
          cases g2 : Ev.views ρ1 r with
          | none => rw [g2] at hv; cases hv
          | some ds' =>
            rw [g2] at hv
            cases hv
            exact ⟨_, _, rfl, rfl, h⟩
      cases o <;> first
        | exact gen rfl
        | (cases ods with
            | nil => exact gen rfl
            | cons od r => cases od with
              | d x => exact first x r rfl (by first | exact .inl rfl | exact .inr rfl) rfl
              | b i => exact gen rfl
              | m i => exact gen rfl)
    · cases an with
      | ok r => exact fin
      | ex x => exact fin
theorem OpQ.one {o : Op} {x : V} (q : OpQ T P C K W σ o [x] H Q) : ∃ ρ1 Hf1 d C' an, ER (T.gm K) σ ρ1 Hf1 H ∧ RB (T.gm K) Hf1 H x d ∧ Frz (T.gm K) Hf1 o C C' [x] [d] ∧ opS P C' o [d] = some an ∧ Fin T K W σ ρ1 Hf1 H Q an := by
  obtain ⟨ρ1, Hf1, ds, C', an, E, r, _, z, h, f⟩ := q
  cases r with
  | cons r1 r2 => cases r2; exact ⟨ρ1, Hf1, _, C', an, E, r1, z, h, f⟩
theorem OpQ.two {o : Op} {x y : V} (q : OpQ T P C K W σ o [x, y] H Q) : ∃ ρ1 Hf1 d e C' an, ER (T.gm K) σ ρ1 Hf1 H ∧ RB (T.gm K) Hf1 H x d ∧ RB (T.gm K) Hf1 H y e ∧ Frz (T.gm K) Hf1 o C C' [x, y] [d, e] ∧ opS P C' o [d, e] = some an ∧ Fin T K W σ ρ1 Hf1 H Q an := by
  obtain ⟨ρ1, Hf1, ds, C', an, E, r, _, z, h, f⟩ := q
  cases r with
  | cons r1 r2 => cases r2 with
    | cons r2 r3 => cases r3; exact ⟨ρ1, Hf1, _, _, C', an, E, r1, r2, z, h, f⟩

variable {ρ1 : EnvD} {Hf1 : Hp}
theorem Fin.val {d : D} {v : V} (E : ER (T.gm K) σ ρ1 Hf1 H) (f : Fin T K W σ ρ1 Hf1 H Q (.ok (.fr d))) (r : Rep (T.gm K) Hf1 v d) : Q v H := f v Hf1 H (.refl E.sub) r fun _ z => z.fr.elim
theorem Fin.newL {xs : List D} {vs : List V} {p : Addr} (E : ER (T.gm K) σ ρ1 Hf1 H) (f : Fin T K W σ ρ1 Hf1 H Q (.ok (.ow xs))) (r : Reps (T.gm K) Hf1 vs xs) (n : H p = none) : Q (.ref p) (upd H p (.lst vs)) := by
  refine f _ Hf1 _ (.loose E.sub n) ⟨p, vs, rfl, ?_, upd_same, r⟩ fun a e => by cases (show V.ref p = .ref a from e); exact n
  cases q : Hf1 p with
  | none => rfl
  | some o => rw [E.sub _ _ q] at n; cases n
theorem Fin.newT {xs : List D} {vs : List V} {p : Addr} (E : ER (T.gm K) σ ρ1 Hf1 H) (f : Fin T K W σ ρ1 Hf1 H Q (.ok (.fr (.tup xs)))) (r : Reps (T.gm K) Hf1 vs xs) (n : H p = none) : Q (.ref p) (upd H p (.tup vs)) := by
  have g : Gr Hf1 H (upd Hf1 p (.tup vs)) (upd H p (.tup vs)) := .new E.sub n
  exact f _ _ _ g (.tup (.inl (.inl upd_same)) (r.mono g.ext)) fun a z => z.fr.elim

theorem most_le {n : Nat} (h : n ≤ most) : n ≤ sizeLine := Nat.le_trans h (by rw [sizeLine_eq]; decide)
theorem mulOk_ok {i j : Int} (h : mulOk i j = true) : IntMulOk i j := by
  have b : ∀ x : Int, x.natAbs < 2 ^ 60 → Builtin.Int.intBits x ≤ 64 := fun x hx => intBits_le_64 (by omega) (by omega)
  unfold mulOk at h
  rw [Bool.or_eq_true, Bool.or_eq_true] at h
  rcases h with (h | h) | h
  · exact .of_left (b i (of_decide_eq_true h))
  · exact .of_right (b j (of_decide_eq_true h))
  · have b : ∀ x : Int, Builtin.Int.intBits x ≤ x.natAbs.log2 + 1 := fun x => by
      unfold Builtin.Int.intBits
      split <;> omega
    have h1 := b i
    have h2 := b j
    have h3 : i.natAbs.log2 + j.natAbs.log2 < 100000000 := of_decide_eq_true h
    have e : bitsLine = 134217728 := by decide
    unfold IntMulOk
    intro z
    rw [Bool.and_eq_true] at z
    have z2 := z.2
    unfold Builtin.Int.intTooBig at z2
    have z3 := of_decide_eq_true z2
    rw [e] at z3
    omega
end
section
variable {T : Tx} {P : Prog} {C : Orc} {X : Cx} {W : WX} {pins : List (Addr × Obj)} {σ : St} {H : Hp} {s : Shared} {x y : V} {v u : Value} {Q : VK}
variable {ρ1 : EnvD} {Hf1 : Hp} {d e : D} {an : An}
/-- a result on values is there -/
theorem wp_int2 {f : Value → Value → Sem Value} {g : Int → Int → V} (o : OpR X f (rI0 g)) (I : Inv X pins σ H s) (rx : RelV (.int i) v) (ry : RelV (.int j) u) (q : Q (g i j) H) :
    wpAny (model X.prog X.w) X.A (f v u) (EP X pins σ Q) X.xe s := o pins s σ H _ _ v u Q I rx ry ⟨i, j, rfl, rfl, q⟩
theorem RB.inv_int {G : Gm} {Hf H : Hp} {v : V} {i : Int} (h : RB G Hf H v (.int i)) : v = .int i := by cases (show Rep G Hf v (.int i) from h); rfl
theorem RB.inv_bl {G : Gm} {Hf H : Hp} {v : V} {i : Bool} (h : RB G Hf H v (.bl i)) : v = .bl i := by cases (show Rep G Hf v (.bl i) from h); rfl
theorem RB.inv_str {G : Gm} {Hf H : Hp} {v : V} {i : Str} (h : RB G Hf H v (.str i)) : v = .str i := by cases (show Rep G Hf v (.str i) from h); rfl
theorem RB.inv_non {G : Gm} {Hf H : Hp} {v : V} (h : RB G Hf H v .non) : v = .non := by cases (show Rep G Hf v .non from h); rfl
theorem RB.inv_tup {G : Gm} {Hf H : Hp} {v : V} {xs : List D} (h : RB G Hf H v (.tup xs)) : ∃ a vs, v = .ref a ∧ SqT G.K Hf a vs ∧ Reps G Hf vs xs := by cases (show Rep G Hf v (.tup xs) from h) with | tup h' r => exact ⟨_, _, rfl, h', r⟩
theorem RB.inv_frz {G : Gm} {Hf H : Hp} {v : V} {xs : List D} (h : RB G Hf H v (.frz xs)) : ∃ a vs, v = .ref a ∧ SqL G.K Hf a vs ∧ Reps G Hf vs xs := by cases (show Rep G Hf v (.frz xs) from h) with | frz h' r => exact ⟨_, _, rfl, h', r⟩

theorem wp_fdiv (I : Inv X pins σ H s) (rx : RelV x v) (ry : RelV y u) (q : OpQ T P C X.K W σ .fdiv [x, y] H Q) : wpAny (model X.prog X.w) X.A (binaryOp .FloorDiv v u) (EP X pins σ Q) X.xe s := by
  obtain ⟨ρ1, Hf1, d, e, C', an, E, r1, r2, z, h, f⟩ := q.two
  have h' : fdivD d e = some an := h
  unfold fdivD at h'
  split at h'
  · rename_i i j
    rw [r1.inv_int] at rx; rw [r2.inv_int] at ry
    obtain ⟨t, rfl⟩ := rx
    obtain ⟨t', rfl⟩ := ry
    by_cases c : divOk j = true
    · rw [if_pos c] at h'
      cases h'
      unfold divOk at c
      rw [Bool.and_eq_true] at c
      exact PyProof.Rows.floordiv_int (of_decide_eq_true c.1) ⟨.int _, H, I.tok _, ⟨_, rfl⟩, f.val E (.int _)⟩ (.inl (PyProof.noPylong_of_log2 (of_decide_eq_true c.2)))
    · rw [if_neg c] at h'; cases h'
  · cases h'
theorem wp_mod (I : Inv X pins σ H s) (rx : RelV x v) (ry : RelV y u) (q : OpQ T P C X.K W σ .mod [x, y] H Q) : wpAny (model X.prog X.w) X.A (binaryOp .Mod v u) (EP X pins σ Q) X.xe s := by
  obtain ⟨ρ1, Hf1, d, e, C', an, E, r1, r2, z, h, f⟩ := q.two
  have h' : modD d e = some an := h
  unfold modD at h'
  split at h'
  · rename_i i j
    rw [r1.inv_int] at rx; rw [r2.inv_int] at ry
    by_cases c : j ≠ 0
    · rw [if_pos c] at h'
      cases h'
      exact op_modN pins s σ H _ _ v u Q I rx ry ⟨i, j, rfl, rfl, c, f.val E (.int _)⟩
    · rw [if_neg c] at h'; cases h'
  · cases h'
theorem wp_pow (I : Inv X pins σ H s) (rx : RelV x v) (ry : RelV y u) (q : OpQ T P C X.K W σ .pow [x, y] H Q) : wpAny (model X.prog X.w) X.A (binaryOp .Pow v u) (EP X pins σ Q) X.xe s := by
  obtain ⟨ρ1, Hf1, d, e, C', an, E, r1, r2, z, h, f⟩ := q.two
  have h' : powD d e = some an := h
  unfold powD at h'
  split at h'
  · rename_i i j
    rw [r1.inv_int] at rx; rw [r2.inv_int] at ry
    by_cases c : 0 ≤ j ∧ j ≤ 1000000 ∧ i.natAbs < 2 ^ 64
    · rw [if_pos c] at h'
      cases h'
      exact op_pow pins s σ H _ _ v u Q I rx ry ⟨i, j, rfl, rfl, c, f.val E (.int _)⟩
    · rw [if_neg c] at h'; cases h'
  · cases h'
theorem wp_shl (I : Inv X pins σ H s) (rx : RelV x v) (ry : RelV y u) (q : OpQ T P C X.K W σ .shl [x, y] H Q) : wpAny (model X.prog X.w) X.A (binaryOp .LShift v u) (EP X pins σ Q) X.xe s := by
  obtain ⟨ρ1, Hf1, d, e, C', an, E, r1, r2, z, h, f⟩ := q.two
  have h' : shlD d e = some an := h
  unfold shlD at h'
  split at h'
  · rename_i i j
    rw [r1.inv_int] at rx; rw [r2.inv_int] at ry
    by_cases c : 0 ≤ j ∧ j ≤ 1000000 ∧ i.natAbs < 2 ^ 64
    · rw [if_pos c] at h'
      cases h'
      exact op_shl pins s σ H _ _ v u Q I rx ry ⟨i, j, rfl, rfl, c, f.val E (.int _)⟩
    · rw [if_neg c] at h'; cases h'
  · cases h'
/-- comparisons of ints -/
theorem wp_cmp {o : Op} {op : CmpOp} {g : Int → Int → Bool} (ho : ∀ d e C', opS P C' o [d, e] = cmpD g d e) (hr : OpR X (compareOp op) (rI0 fun i j => .bl (g i j)))
    (I : Inv X pins σ H s) (rx : RelV x v) (ry : RelV y u) (q : OpQ T P C X.K W σ o [x, y] H Q) : wpAny (model X.prog X.w) X.A (compareOp op v u) (EP X pins σ Q) X.xe s := by
  obtain ⟨ρ1, Hf1, d, e, C', an, E, r1, r2, z, h, f⟩ := q.two
  rw [ho] at h
  unfold cmpD at h
  split at h
  · rename_i i j
    rw [r1.inv_int] at rx; rw [r2.inv_int] at ry
    cases h
    exact hr pins s σ H _ _ v u Q I rx ry ⟨i, j, rfl, rfl, f.val E (.bl _)⟩
  · cases h
def D.isNon : D → Bool
  | .non => true
  | _ => false
theorem isN_of {G : Gm} {Hf H : Hp} {v : V} {d : D} (r : RB G Hf H v d) : decide (v = .non) = d.isNon := by
  cases d with
  | non => cases r.inv_non; rfl
  | bl b => cases r.inv_bl; rfl
  | int i => cases r.inv_int; rfl
  | str z => cases r.inv_str; rfl
  | tup xs => obtain ⟨a, vs, e, _⟩ := r.inv_tup; cases e; rfl
  | frz xs => obtain ⟨a, vs, e, _⟩ := r.inv_frz; cases e; rfl
  | lst xs => obtain ⟨a, vs, e, _⟩ := r; cases e; rfl
  | ins c ns xs => obtain ⟨a, dx, vs, e, _⟩ := r; cases e; rfl
theorem plainIs_bl {v : Value} {b : Bool} (rx : RelV x v) : plainIs v (.bool b) = true := by
  cases x with
  | non => cases rx; rfl
  | bl c => cases rx; rfl
  | int i => obtain ⟨t, rfl⟩ := rx; rfl
  | str z => obtain ⟨t, rfl⟩ := rx; rfl
  | byt z => obtain ⟨t, rfl⟩ := rx; rfl
  | flt z => obtain ⟨t, rfl⟩ := rx; rfl
  | ref a => cases rx; rfl
  | ty n => cases rx; rfl
theorem isBl_of {b : Bool} (rx : RelV x v) : (v == Value.bool b) = decide (x = .bl b) := by
  cases x with
  | non => cases rx; rfl
  | bl c =>
    cases rx
    by_cases e : c = b
    · subst e; simp
    · rw [decide_eq_false (fun z => e (V.bl.inj z))]
      exact beq_eq_false_iff_ne.mpr fun z => e (Value.bool.inj z)
  | int i => obtain ⟨t, rfl⟩ := rx; rfl
  | str z => obtain ⟨t, rfl⟩ := rx; rfl
  | byt z => obtain ⟨t, rfl⟩ := rx; rfl
  | flt z => obtain ⟨t, rfl⟩ := rx; rfl
  | ref a => cases rx; rfl
  | ty n => cases rx; rfl
theorem isD_blOf {G : Gm} {Hf H : Hp} {d : D} {b : Bool} (r : RB G Hf H x d) : isD d (.bl b) = some (decide (x = .bl b)) := by
  cases d with
  | non => cases r.inv_non; rfl
  | bl c =>
    cases r.inv_bl
    show some (c == b) = _
    by_cases e : c = b
    · subst e; simp
    · rw [decide_eq_false (fun z => e (V.bl.inj z)), beq_eq_false_iff_ne.mpr e]
  | int i => cases r.inv_int; rfl
  | str z => cases r.inv_str; rfl
  | tup xs => obtain ⟨a, vs, e, _⟩ := r.inv_tup; cases e; rfl
  | frz xs => obtain ⟨a, vs, e, _⟩ := r.inv_frz; cases e; rfl
  | lst xs => obtain ⟨a, vs, e, _⟩ := r; cases e; rfl
  | ins c ns xs => obtain ⟨a, dx, vs, e, _⟩ := r; cases e; rfl
theorem isD_nonOf {G : Gm} {Hf H : Hp} {d : D} (r : RB G Hf H x d) : isD d .non = some (decide (x = .non)) := by
  rw [isN_of r]
  cases d <;> rfl
theorem isD_some {d e : D} {b : Bool} (h : isD d e = some b) : e = .non ∨ ∃ c, e = .bl c := by
  cases e with
  | non => exact .inl rfl
  | bl c => exact .inr ⟨c, rfl⟩
  | _ => cases d <;> cases h
/-- is, is not of None, True, False -/
theorem wp_is (I : Inv X pins σ H s) (rx : RelV x v) (ry : RelV y u) (q : OpQ T P C X.K W σ .is [x, y] H Q) : wpAny (model X.prog X.w) X.A (compareOp .Is v u) (EP X pins σ Q) X.xe s := by
  obtain ⟨ρ1, Hf1, d, e, C', an, E, r1, r2, z, h, f⟩ := q.two
  have h' : boolA (isD d e) = some an := h
  cases hb : isD d e with
  | none => rw [hb] at h'; cases h'
  | some b =>
    rw [hb] at h'
    cases h'
    have q : Q (.bl b) H := f.val E (.bl b)
    rcases isD_some hb with rfl | ⟨c, rfl⟩
    · cases r2.inv_non
      rw [isD_nonOf r1] at hb
      cases hb
      exact op_isN pins s σ H _ _ v u Q I rx ry ⟨rfl, q⟩
    · cases r2.inv_bl
      cases ry
      rw [isD_blOf r1] at hb
      cases hb
      exact wpAny_is_plain (plainIs_bl rx) ⟨.bl _, H, I, by rw [isBl_of rx]; rfl, q⟩
theorem wp_isnot (I : Inv X pins σ H s) (rx : RelV x v) (ry : RelV y u) (q : OpQ T P C X.K W σ .isnot [x, y] H Q) : wpAny (model X.prog X.w) X.A (compareOp .IsNot v u) (EP X pins σ Q) X.xe s := by
  obtain ⟨ρ1, Hf1, d, e, C', an, E, r1, r2, z, h, f⟩ := q.two
  have h' : boolA ((isD d e).map not) = some an := h
  cases hb : isD d e with
  | none => rw [hb] at h'; cases h'
  | some b =>
    rw [hb] at h'
    cases h'
    have q : Q (.bl (!b)) H := f.val E (.bl (!b))
    rcases isD_some hb with rfl | ⟨c, rfl⟩
    · cases r2.inv_non
      rw [isD_nonOf r1] at hb
      cases hb
      exact op_notN pins s σ H _ _ v u Q I rx ry ⟨rfl, q⟩
    · cases r2.inv_bl
      cases ry
      rw [isD_blOf r1] at hb
      cases hb
      exact wpAny_isNot_plain (plainIs_bl rx) ⟨.bl _, H, I, by rw [isBl_of rx]; rfl, q⟩

/-! ### lists, tuples -/
theorem ixD_ixN (n : Nat) (i : Int) : ixD n i = ixN n i := by
  unfold ixD ixN
  by_cases h : 0 ≤ i
  · rw [if_pos h, if_pos h]
  · rw [if_neg h, if_neg h]
    by_cases h2 : -(n : Int) ≤ i
    · rw [if_pos h2, if_pos (by omega), Int.add_comm]
    · rw [if_neg h2, if_neg (by omega)]
theorem Reps.atI {G : Gm} {Hf : Hp} {vs : List V} {xs : List D} {i : Int} {an : An} (r : Reps G Hf vs xs) (h : ((ixD xs.length i).bind fun k => xs[k]?.bind valA) = some an) : ∃ v d, L2.atI vs i = some v ∧ an = .ok (.fr d) ∧ Rep G Hf v d := by
  unfold L2.atI
  rw [ixD_ixN, ← r.length] at h
  cases q : ixN vs.length i with
  | none => rw [q] at h; cases h
  | some k =>
    rw [q] at h
    have h2 : (xs[k]?.bind valA) = some an := h
    cases q2 : xs[k]? with
    | none => rw [q2] at h2; cases h2
    | some d =>
      rw [q2] at h2
      cases h2
      obtain ⟨v, e1, e2⟩ := r.getD q2
      exact ⟨v, d, e1, rfl, e2⟩
theorem SqT.sub0 {K : PySem.W.Frag} {Hf H : Hp} {a : Addr} {vs : List V} (s : Same Hf H) (h : SqT K Hf a vs) : SqT K H a vs := SqT.same s h
/-- xs[i] -/
theorem wp_idx {value slice : Expr} (I : Inv X pins σ H s) (rx : RelV x v) (ry : RelV y u) (q : OpQ T P C X.K W σ .idx [x, y] H Q) (hs : subscripted slice false v u = operate [v, u] (getItem v u)) :
    wpAny (model X.prog X.w) X.A (PyProof.Rows.subscriptTail value slice v u) (EP X pins σ Q) X.xe s := by
  obtain ⟨ρ1, Hf1, d, e, C', an, E, r1, r2, z, h, f⟩ := q.two
  have h' : idxD d e = some an := h
  unfold idxD at h'
  split at h'
  · obtain ⟨a, vs, rfl, h1, rs⟩ := r1
    cases r2.inv_int
    obtain ⟨w, dd, e1, rfl, e2⟩ := rs.atI h'
    exact ix_list value slice pins s σ H _ _ v u Q I rx ry ⟨a, vs, _, w, rfl, rfl, .of h1, e1, f.val E e2⟩ hs
  · obtain ⟨a, vs, rfl, h1, rs⟩ := r1.inv_tup
    cases r2.inv_int
    obtain ⟨w, dd, e1, rfl, e2⟩ := rs.atI h'
    exact ix_tup value slice pins s σ H _ _ v u Q I rx ry ⟨a, vs, _, w, rfl, rfl, SqT.same E.sub h1, e1, f.val E e2⟩ hs
  · obtain ⟨a, vs, rfl, h1, rs⟩ := r1.inv_frz
    cases r2.inv_int
    obtain ⟨w, dd, e1, rfl, e2⟩ := rs.atI h'
    exact ix_list value slice pins s σ H _ _ v u Q I rx ry ⟨a, vs, _, w, rfl, rfl, E.sub.seq h1, e1, f.val E e2⟩ hs
  · cases h'
theorem cut_eq {vs : List V} {lo hi : Option Int} : cutV vs lo hi = cut vs lo hi := rfl
theorem Reps.cut {G : Gm} {Hf : Hp} {vs : List V} {xs : List D} (r : Reps G Hf vs xs) (lo hi : Option Int) : Reps G Hf (Ev.cut vs lo hi) (Ev.cut xs lo hi) := by
  unfold Ev.cut
  rw [r.length]
  exact (r.drop _).take _
/-- a slice's result, by values -/
def SlQ (T : Tx) (K : PySem.W.Frag) (W : WX) (σ : St) (x : V) (lo hi : Option Int) (H : Hp) (Q : VK) : Prop := ∃ ρ1 Hf1 d an, ER (T.gm K) σ ρ1 Hf1 H ∧ RB (T.gm K) Hf1 H x d ∧ sliceD d lo hi = some an ∧ Fin T K W σ ρ1 Hf1 H Q an
theorem wp_slice : SlR X (fun x lo hi H Q => ∃ σ, SlQ T X.K W σ x lo hi H Q) := by
  intro pins s σ H x v vl vu lo hi sl Q I rx hs pl pu q
  obtain ⟨σ', ρ1, Hf1, d, an, E, r1, h, f⟩ := q
  refine sl_list pins s σ H x v vl vu lo hi sl Q I rx hs pl pu ?_
  unfold sliceD at h
  split at h
  · obtain ⟨a, vs, rfl, h1, rs⟩ := r1
    cases h
    exact ⟨a, vs, rfl, .of h1, fun p hp => f.newL E (rs.cut lo hi) hp⟩
  · obtain ⟨a, vs, rfl, h1, rs⟩ := r1.inv_frz
    cases h
    exact ⟨a, vs, rfl, E.sub.seq h1, fun p hp => f.newL E (rs.cut lo hi) hp⟩
  · cases h

/-! ### built-in functions -/
theorem wp_len (I : Inv X pins σ H s) (rx : RelV x v) (q : OpQ T P C X.K W σ .len [x] H Q) : wpAny (model X.prog X.w) X.A (call (.builtin "len") [v]) (EP X pins σ Q) X.xe s := by
  obtain ⟨ρ1, Hf1, d, C', an, E, r1, z, h, f⟩ := q.one
  have h' : lenD d = some an := h
  refine call_len pins s σ H [x] [v] Q I (.cons rx .nil) ?_
  unfold lenD at h'
  split at h'
  · obtain ⟨a, vs, rfl, h1, rs⟩ := r1
    cases h'
    exact ⟨_, _, rfl, .inl ⟨vs, .of h1, rfl⟩, by rw [rs.length]; exact f.val E (.int _)⟩
  · obtain ⟨a, vs, rfl, h1, rs⟩ := r1.inv_tup
    cases h'
    exact ⟨_, _, rfl, .inr ⟨vs, SqT.same E.sub h1, rfl⟩, by rw [rs.length]; exact f.val E (.int _)⟩
  · obtain ⟨a, vs, rfl, h1, rs⟩ := r1.inv_frz
    cases h'
    exact ⟨_, _, rfl, .inl ⟨vs, E.sub.seq h1, rfl⟩, by rw [rs.length]; exact f.val E (.int _)⟩
  · rename_i z0
    cases r1.inv_str
    by_cases c : z0.length ≤ most
    · rw [if_pos c] at h'
      cases h'
      exact ⟨_, _, rfl, ⟨most_le c, rfl⟩, f.val E (.int _)⟩
    · rw [if_neg c] at h'; cases h'
  · cases h'
theorem wp_abs (I : Inv X pins σ H s) (rx : RelV x v) (q : OpQ T P C X.K W σ .abs [x] H Q) : wpAny (model X.prog X.w) X.A (call (.builtin "abs") [v]) (EP X pins σ Q) X.xe s := by
  obtain ⟨ρ1, Hf1, d, C', an, E, r1, z, h, f⟩ := q.one
  have h' : absD d = some an := h
  unfold absD at h'
  split at h'
  · cases r1.inv_int
    cases h'
    exact call_abs pins s σ H _ [v] Q I (.cons rx .nil) ⟨_, rfl, f.val E (.int _)⟩
  · cases h'
theorem wp_int (I : Inv X pins σ H s) (rx : RelV x v) (q : OpQ T P C X.K W σ .int [x] H Q) : wpAny (model X.prog X.w) X.A (call (.type "int") [v]) (EP X pins σ Q) X.xe s := by
  obtain ⟨ρ1, Hf1, d, C', an, E, r1, z, h, f⟩ := q.one
  have h' : intD d = some an := h
  unfold intD at h'
  split at h'
  · cases r1.inv_int
    cases h'
    exact call_int1 pins s σ H _ [v] Q I (.cons rx .nil) (.inl ⟨_, rfl, f.val E (.int _)⟩)
  · cases r1.inv_bl
    cases h'
    exact call_int1 pins s σ H _ [v] Q I (.cons rx .nil) (.inr ⟨_, rfl, f.val E (.int _)⟩)
  · cases h'
theorem wp_tuple (I : Inv X pins σ H s) (rx : RelV x v) (q : OpQ T P C X.K W σ .tuple [x] H Q) : wpAny (model X.prog X.w) X.A (call (.type "tuple") [v]) (EP X pins σ Q) X.xe s := by
  obtain ⟨ρ1, Hf1, d, C', an, E, r1, z, h, f⟩ := q.one
  have h' : tupleD d = some an := h
  unfold tupleD at h'
  split at h'
  · obtain ⟨a, vs, rfl, h1, rs⟩ := r1
    cases h'
    exact call_tuple_of pins s σ H _ [v] Q I (.cons rx .nil) ⟨_, vs, rfl, .inl ⟨.of h1, fun l hl => f.newT E rs hl⟩⟩
  · obtain ⟨a, vs, rfl, h1, rs⟩ := r1.inv_tup
    cases h'
    exact call_tuple_of pins s σ H _ [v] Q I (.cons rx .nil) ⟨_, vs, rfl, .inr ⟨SqT.same E.sub h1, f.val E (.tup h1 rs)⟩⟩
  · cases h'
theorem wp_list (I : Inv X pins σ H s) (rx : RelV x v) (q : OpQ T P C X.K W σ .list [x] H Q) : wpAny (model X.prog X.w) X.A (call (.type "list") [v]) (EP X pins σ Q) X.xe s := by
  obtain ⟨ρ1, Hf1, d, C', an, E, r1, z, h, f⟩ := q.one
  have h' : listD d = some an := h
  unfold listD at h'
  split at h'
  · obtain ⟨a, vs, rfl, h1, rs⟩ := r1
    cases h'
    exact call_list_of pins s σ H _ [v] Q I (.cons rx .nil) ⟨_, vs, rfl, .inl (.of h1), fun l hl => f.newL E rs hl⟩
  · obtain ⟨a, vs, rfl, h1, rs⟩ := r1.inv_tup
    cases h'
    exact call_list_of pins s σ H _ [v] Q I (.cons rx .nil) ⟨_, vs, rfl, .inr (SqT.same E.sub h1), fun l hl => f.newL E rs hl⟩
  · cases h'
theorem boolsOf_reps {G : Gm} {Hf : Hp} : ∀ {vs : List V} {xs : List D} {bs : List Bool}, Reps G Hf vs xs → boolsOf xs = some bs → vs = bs.map V.bl
  | _, _, _, .nil, h => by cases h; rfl
  | _, _, _, .cons (d := d) (ds := ds) h r, q => by
    cases d with
    | bl b =>
      have q' : (boolsOf ds).map (b :: ·) = some _ := q
      cases e : boolsOf ds with
      | none => rw [e] at q'; cases q'
      | some l =>
        rw [e] at q'
        cases q'
        cases h
        rw [boolsOf_reps r e]
        rfl
    | _ => cases q
theorem intsOf_reps {G : Gm} {Hf : Hp} : ∀ {vs : List V} {xs : List D} {bs : List Int}, Reps G Hf vs xs → intsOf xs = some bs → vs = bs.map V.int
  | _, _, _, .nil, h => by cases h; rfl
  | _, _, _, .cons (d := d) (ds := ds) h r, q => by
    cases d with
    | int b =>
      have q' : (intsOf ds).map (b :: ·) = some _ := q
      cases e : intsOf ds with
      | none => rw [e] at q'; cases q'
      | some l =>
        rw [e] at q'
        cases q'
        cases h
        rw [intsOf_reps r e]
        rfl
    | _ => cases q
theorem wp_any (hc : X.calm = true) (I : Inv X pins σ H s) (rx : RelV x v) (q : OpQ T P C X.K W σ .any [x] H Q) : wpAny (model X.prog X.w) X.A (call (.builtin "any") [v]) (EP X pins σ Q) X.xe s := by
  obtain ⟨ρ1, Hf1, d, C', an, E, r1, z, h, f⟩ := q.one
  have h' : boolsD (fun bs => bs.any id) d = some an := h
  unfold boolsD at h'
  split at h'
  · rename_i xs
    obtain ⟨a, vs, rfl, h1, rs⟩ := r1
    cases e : boolsOf xs with
    | none => rw [e] at h'; cases h'
    | some bs =>
      rw [e] at h'
      cases h'
      rw [boolsOf_reps rs e] at h1
      exact cr_any hc pins s σ H _ [v] Q I (.cons rx .nil) ⟨a, bs, rfl, .of h1, f.val E (.bl _)⟩
  · cases h'
theorem wp_all (hc : X.calm = true) (I : Inv X pins σ H s) (rx : RelV x v) (q : OpQ T P C X.K W σ .all [x] H Q) : wpAny (model X.prog X.w) X.A (call (.builtin "all") [v]) (EP X pins σ Q) X.xe s := by
  obtain ⟨ρ1, Hf1, d, C', an, E, r1, z, h, f⟩ := q.one
  have h' : boolsD (fun bs => bs.all id) d = some an := h
  unfold boolsD at h'
  split at h'
  · rename_i xs
    obtain ⟨a, vs, rfl, h1, rs⟩ := r1
    cases e : boolsOf xs with
    | none => rw [e] at h'; cases h'
    | some bs =>
      rw [e] at h'
      cases h'
      rw [boolsOf_reps rs e] at h1
      exact cr_all hc pins s σ H _ [v] Q I (.cons rx .nil) ⟨a, bs, rfl, .of h1, f.val E (.bl _)⟩
  · cases h'
theorem wp_sum (hc : X.calm = true) (I : Inv X pins σ H s) (rx : RelV x v) (q : OpQ T P C X.K W σ .sum [x] H Q) : wpAny (model X.prog X.w) X.A (call (.builtin "sum") [v]) (EP X pins σ Q) X.xe s := by
  obtain ⟨ρ1, Hf1, d, C', an, E, r1, z, h, f⟩ := q.one
  have h' : sumD d = some an := h
  unfold sumD at h'
  split at h'
  · rename_i xs
    obtain ⟨a, vs, rfl, h1, rs⟩ := r1
    cases e : intsOf xs with
    | none => rw [e] at h'; cases h'
    | some bs =>
      rw [e] at h'
      cases h'
      rw [intsOf_reps rs e] at h1
      exact cr_sum hc pins s σ H _ [v] Q I (.cons rx .nil) ⟨a, bs, rfl, .of h1, f.val E (.int _)⟩
  · cases h'
theorem wp_int2D {o : Op} {id : String} {g : Int → Int → Int} (ho : ∀ d e C', opS P C' o [d, e] = int2D g d e) (hr : CallR X (.builtin id) fun xs H Q => ∃ i j, xs = [.int i, .int j] ∧ Q (.int (g i j)) H)
    (I : Inv X pins σ H s) (rx : RelV x v) (ry : RelV y u) (q : OpQ T P C X.K W σ o [x, y] H Q) : wpAny (model X.prog X.w) X.A (call (.builtin id) [v, u]) (EP X pins σ Q) X.xe s := by
  obtain ⟨ρ1, Hf1, d, e, C', an, E, r1, r2, z, h, f⟩ := q.two
  rw [ho] at h
  unfold int2D at h
  split at h
  · cases r1.inv_int
    cases r2.inv_int
    cases h
    exact hr pins s σ H _ [v, u] Q I (.cons rx (.cons ry .nil)) ⟨_, _, rfl, f.val E (.int _)⟩
  · cases h
end
end Ev
/-! Ev 6: calls. -/
namespace Ev
open PySem PySem.Spec L2

/-- the parameters that may change, behind a call -/
inductive Fins (G : Gm) (Hf H : Hp) (vs : List V) : List Nat → List EV → Prop
  | nil : Fins G Hf H vs [] []
  | cons {i : Nat} {is : List Nat} {v : V} {e : EV} {es : List EV} : vs[i]? = some v → SR G Hf H v e → Fins G Hf H vs is es → Fins G Hf H vs (i :: is) (e :: es)
/-- behind a call -/
structure Back (G : Gm) (vs : List V) (as : List EV) (Hf H Hf' H' : Hp) : Prop where
  sub : Same Hf' H'
  ext : Same Hf Hf'
  frame : ∀ a o, H a = some o → ¬ Own (vs.map some) (as.map some) H a → H' a = some o
  acc : ∀ a, Hf' a ≠ none → Own (vs.map some) (as.map some) H a ∨ Hf a ≠ none ∨ H a = none
/-- what a def promises: that it does what C says -/
def spD (T : Tx) (C : Orc) (K : PySem.W.Frag) (np : Nat) (mu : List Nat) (f : Nat) : Sp := fun vs H Q E => vs.length = np ∧ ∃ as Hf r, as.length = np ∧ ER (T.gm K) (vs.map some) (as.map some) Hf H ∧ C f as = some r ∧ match r with
  | .ret e fin => ∀ v Hf' H', Back (T.gm K) vs as Hf H Hf' H' → Fins (T.gm K) Hf' H' vs mu fin → SR (T.gm K) Hf' H' v e →
      (∀ a, Has H' e v a → (Own (vs.map some) (as.map some) H a ∨ H a = none) ∧ ∀ i ∈ mu, vs[i]? ≠ some (.ref a)) → Q v H'
  | .exc x => ∀ cls d Hf' H', Back (T.gm K) vs as Hf H Hf' H' → XR T x cls d H' → E cls d H'

/-- the built-in names that the rules know -/
def bltN : List Str := (["len", "abs", "int", "tuple", "list", "any", "all", "sum", "min", "max", "isinstance", "str", "bool", "range", "zip", "enumerate", "sorted", "set", "dict", "reversed", "print", "super", "ValueError", "IndexError", "KeyError", "divmod", "pow", "round", "map", "filter", "frozenset", "iter", "next", "type"] : List String).map Str.ofString
def bltT : List String := ["NoneType", "bool", "int", "str", "tuple", "list"]
/-- the text's facts -/
structure Fac (T : Tx) (P : Prog) (K : PySem.W.Frag) (mg : Str → Option Value) : Prop where
  inj : ∀ i j, T.fn i = T.fn j → i = j
  mf : ∀ c m f n, P.meth c m = some f → T.mn m ≠ T.fn n
  fld : ∀ c f, P.fld c f = true → Cls K (T.ca c) ∧ NoAttr K (T.ca c) (T.fn f)
  meth : ∀ c m f, P.meth c m = some f → m ≠ mInit → Cls K (T.ca c) ∧ Meth K (T.ca c) (T.mn m) (T.fa f) ∧ PySem.W.selfFirst K (T.ca c) = true
  make : ∀ c f, P.meth c mInit = some f → Mk K (T.ca c) (T.fa f) ∧ Cls K (T.ca c)
  eqs : ∀ c f, P.meth c mEq = some f → Cls K (T.ca c) ∧ Meth K (T.ca c) (T.mn mEq) (T.fa f) ∧ PySem.W.findIn K (.ref (T.ca c)) "__ne__" = some (some (.builtin "object.__ne__")) ∧ PySem.W.mroIn K (T.ca c) (.type "object") = some true ∧
    ∀ t ∈ bltT, PySem.W.subIn K (.type t) (.ref (T.ca c)) = some false
  isI : ∀ c, P.sub c c = some true → P.exc c = false → Cls K (T.ca c) ∧ PySem.W.findIn K (.ref (T.ca c)) "__class__" = some (some (.builtin "object.__class__")) ∧
      PySem.W.specialIn K (.builtin "object.__class__") "__get__" = some (some (.builtin "getset_descriptor.__get__")) ∧ PySem.W.takesIn K (.builtin "object.__class__") = some true ∧ PySem.W.mroIn K (T.ca c) (.type "object") = some true
  kCC : ∀ c c' b, P.sub c c' = some b → P.sub c c = some true ∧ PySem.W.kitOne K (.ref (T.ca c)) (.ref (T.ca c')) = some b
  kCB : ∀ c, P.sub c c = some true → ∀ t ∈ bltT, PySem.W.kitOne K (.ref (T.ca c)) (.type t) = some false
  kBC : ∀ c, P.sub c c = some true → ∀ t ∈ bltT, PySem.W.kitOne K (.type t) (.ref (T.ca c)) = some false
  glob : ∀ g d, P.glob g = some d → ∃ u v, mg (T.gn g) = some u ∧ RelV v u ∧ ∀ H, Rep (T.gm K) H v d
  fnG : ∀ f, T.tl f = true → mg (T.ln f) = some (.ref (T.fa f)) ∧ PySem.W.keepIn K (.ref (T.fa f)) = true
  clG : ∀ c, T.tc c = true → mg (T.cn c) = some (.ref (T.ca c))
  blt : ∀ x ∈ bltN, mg x = none
  gcd : T.gcd = true → mg "gcd" = some (.builtin "math.gcd")
  sub : ∀ c c' b, P.sub c c' = some b → PySem.W.subIn K (.ref (T.ca c)) (.ref (T.ca c')) = some b
  xf : ∀ c, T.xf c = P.xf c
  exO : ∀ c, T.xo c = true → (∃ B newId initId bmB, ExcBaseFacts B newId initId bmB ∧ PySem.W.excIn K (T.ca c) bmB newId = true) ∧ mg (T.cn c) = some (.ref (T.ca c)) ∧ PySem.W.keepIn K (.ref (T.ca c)) = true ∧
    PySem.W.subIn K (.ref (T.ca c)) (.type "BaseException") = some true ∧ PySem.W.typeIn K (.ref (T.ca c)) = some (.type "type") ∧ T.xf c = none
  exH : ∀ c, T.xh c = true → mg (T.cn c) = some (.ref (T.ca c)) ∧ PySem.W.subIn K (.ref (T.ca c)) (.type "BaseException") = some true ∧ PySem.W.hasDictIn K (T.ca c) = true ∧ PySem.W.typeIn K (.ref (T.ca c)) = some (.type "type")
  exC : ∀ c, P.exc c = true → ExcC K (T.ca c) ∧ PySem.W.kitOne K (.ref (T.ca c)) (.type "ValueError") = some true
  nEq : T.mn mEq = "__eq__"
  nAdd : T.mn mAdd = "__add__"
  nSub : T.mn mSub = "__sub__"
  nMul : T.mn mMul = "__mul__"
  nNeg : T.mn mNeg = "__neg__"
  bind : ∀ f F, P.fn f = some F → (T.ps f).length = F.np ∧ ∀ n, n ≤ F.np → F.np ≤ n + F.dfl.length → ∃ dvs ds, Vals dvs ds ∧ Binds K (T.fd f) (T.ps f) ds ∧ dvs.length = F.np - n ∧ ∀ G H, Reps G H dvs (F.dfl.drop (n + F.dfl.length - F.np))
/-- where code runs: the defs that it calls keep their promises -/
structure Cok0 (T : Tx) (P : Prog) (C : Orc) (L : Nat) (X : Cx) (W : WX) : Prop where
  fac : Fac T P X.K X.mg
  fns : ∀ f F, P.fn f = some F → FnOk X.prog X.w X.K X.mg X.base (L2.CX X.prog X.w) L (T.fa f) (T.fd f) (T.ps f) (spD T C X.K F.np F.mu f)
  fill : ∀ f as r, C f as = some r → ∃ F, P.fn f = some F ∧ as.length ≤ F.np ∧ F.np ≤ as.length + F.dfl.length ∧ C f (as ++ (F.dfl.drop (as.length + F.dfl.length - F.np)).map EV.fr) = some r
  takes : Takes X W
structure Cok (T : Tx) (P : Prog) (C : Orc) (L : Nat) (X : Cx) (W : WX) : Prop extends Cok0 T P C L X W where
  calm : X.calm = true
  nd : X.N.Nodup
  room : Room (L + 7) X.A

section
variable {G : Gm} {σ : St} {ρ : EnvD} {Hf H : Hp}
theorem ER.app {vs ws : List V} {as : List EV} {ds : List D} (E : ER G (vs.map some) (as.map some) Hf H) (r : Reps G Hf ws ds) (l : as.length = vs.length) :
    ER G ((vs ++ ws).map some) ((as ++ ds.map EV.fr).map some) Hf H := by
  have key : ∀ (i : Nat) (e : EV), ((as ++ ds.map EV.fr).map some)[i]? = some (some e) → (i < as.length ∧ (as.map some)[i]? = some (some e)) ∨ (as.length ≤ i ∧ ∃ d, ds[i - as.length]? = some d ∧ e = .fr d) := fun i e h => by
    rw [List.getElem?_map] at h
    rcases Nat.lt_or_ge i as.length with z | z
    · rw [List.getElem?_append_left z] at h
      exact .inl ⟨z, by rw [List.getElem?_map]; exact h⟩
    · rw [List.getElem?_append_right z, List.getElem?_map] at h
      cases q : ds[i - as.length]? with
      | none => rw [q] at h; cases h
      | some d =>
        rw [q] at h
        cases h
        exact .inr ⟨z, d, rfl, rfl⟩
  have left : ∀ (i : Nat), i < as.length → ((vs ++ ws).map some)[i]? = (vs.map some)[i]? := fun i h => by
    rw [List.getElem?_map, List.getElem?_map, List.getElem?_append_left (by omega)]
  refine ⟨E.sub, fun i e h => ?_, fun i j e e' v w a h1 h2 h3 h4 h5 h6 => ?_⟩
  · rcases key i e h with ⟨z, q⟩ | ⟨z, d, q, rfl⟩
    · obtain ⟨v, e1, e2⟩ := E.slot i e q
      exact ⟨v, by rw [left i z]; exact e1, e2⟩
    · obtain ⟨v, e1, e2⟩ := r.getD q
      exact ⟨v, by rw [List.getElem?_map, List.getElem?_append_right (by omega), ← l, e1]; rfl, e2⟩
  · rcases key i e h1 with ⟨z, q⟩ | ⟨z, d, q, rfl⟩
    · rcases key j e' h2 with ⟨z', q'⟩ | ⟨z', d', q', rfl⟩
      · exact E.apart i j e e' v w a q q' (by rw [← left i z]; exact h3) (by rw [← left j z']; exact h4) h5 h6
      · exact h6.fr.elim
    · exact h5.fr.elim
theorem Own.app {vs ws : List V} {as : List EV} {ds : List D} {a : Addr} (l : as.length = vs.length) : Own ((vs ++ ws).map some) ((as ++ ds.map EV.fr).map some) H a ↔ Own (vs.map some) (as.map some) H a := by
  constructor
  · rintro ⟨i, e, v, h1, h3, h2⟩
    rw [List.getElem?_map] at h1 h3
    rcases Nat.lt_or_ge i as.length with z | z
    · rw [List.getElem?_append_left z] at h1
      rw [List.getElem?_append_left (by omega)] at h3
      exact ⟨i, e, v, by rw [List.getElem?_map]; exact h1, by rw [List.getElem?_map]; exact h3, h2⟩
    · rw [List.getElem?_append_right z, List.getElem?_map] at h1
      cases q : ds[i - as.length]? with
      | none => rw [q] at h1; cases h1
      | some d => rw [q] at h1; cases h1; exact h2.fr.elim
  · rintro ⟨i, e, v, h1, h3, h2⟩
    have z : i < as.length := by have := lt_of_get h1; simpa using this
    rw [List.getElem?_map] at h1 h3
    exact ⟨i, e, v, by rw [List.getElem?_map, List.getElem?_append_left z]; exact h1, by rw [List.getElem?_map, List.getElem?_append_left (by omega)]; exact h3, h2⟩
theorem Fins.back {Hf' H' : Hp} {vs ws : List V} : ∀ {mu : List Nat} {fin : List EV}, (∀ i ∈ mu, i < vs.length) → Fins G Hf' H' (vs ++ ws) mu fin → Fins G Hf' H' vs mu fin
  | _, _, _, .nil => .nil
  | _, _, hm, .cons h s r => .cons (by rw [List.getElem?_append_left (hm _ List.mem_cons_self)] at h; exact h) s (Fins.back (fun i hi => hm i (List.mem_cons_of_mem _ hi)) r)
theorem Fins.mem {Hf' H' : Hp} {vs : List V} : ∀ {mu : List Nat} {fin : List EV}, Fins G Hf' H' vs mu fin → ∀ i ∈ mu, i < vs.length
  | _, _, .nil, i, h => by cases h
  | _, _, .cons h _ r, i, hi => by
    rcases List.mem_cons.mp hi with e | hi
    · rw [e]; exact lt_of_get h
    · exact r.mem i hi
end

section
variable {T : Tx} {P : Prog} {C : Orc} {L : Nat} {X : Cx} {W : WX} {pins : List (Addr × Obj)} {σ : St} {H Hf : Hp} {s : Shared}
/-- what is wanted of a call, by values -/
def CallQ (T : Tx) (P : Prog) (C : Orc) (K : PySem.W.Frag) (W : WX) (σ : St) (f : Nat) (vs : List V) (H : Hp) (Q : V → Hp → Prop) : Prop := ∃ as Hf r, as.length = vs.length ∧ ER (T.gm K) (vs.map some) (as.map some) Hf H ∧ C f as = some r ∧ match r with
  | .ret e fin => ∀ v Hf' H' F, P.fn f = some F → Back (T.gm K) vs as Hf H Hf' H' → Fins (T.gm K) Hf' H' vs F.mu fin → SR (T.gm K) Hf' H' v e →
      (∀ a, Has H' e v a → (Own (vs.map some) (as.map some) H a ∨ H a = none) ∧ ∀ i ∈ F.mu, vs[i]? ≠ some (.ref a)) → Q v H'
  | .exc x => ∀ cls d Hf' H', Back (T.gm K) vs as Hf H Hf' H' → XR T x cls d H' → W cls d σ H'
/-- the parameters that change are among those that are written -/
structure MuOk (P : Prog) : Prop where
  lt : ∀ f F, P.fn f = some F → ∀ i ∈ F.mu, i + F.dfl.length < F.np
theorem Cok.here (ok : Cok T P C L X W) : Sub X L X.A := ⟨ok.room.mono (by omega), rfl⟩
/-- a call, somewhere below the running code -/
theorem run_fnA {A : Around} {CX : CXT} {k : Nat} {f : Addr} {fd : FuncData} {ps : List Str} {sp : Sp} {dvs : List V} {ds : List Value} {E : St → XK} {Q : VK} {us : List Value} {vs : List V} (F : FnOk X.prog X.w X.K X.mg X.base CX k f fd ps sp) (sb : Sub X k A) (hb : Binds X.K fd ps ds) (hd : Vals dvs ds) (hx : PassesAt CX X σ (E σ))
    (I : Inv X pins σ H s) (r : Vals vs us) (h : sp (vs ++ dvs) H Q (E σ)) : wpAny (model X.prog X.w) A (call (.ref f) us) (EP X pins σ Q) X.xe s := by
  have r2 : Vals (vs ++ dvs) (us ++ ds) := r.append hd
  have hl : (us ++ ds).length = ps.length := by rw [← r2.length]; exact F.len _ _ _ _ h
  have e0 : Env0 X.prog X.w X.K X.mg X.base A X.stack s H := by
    have e := I.env0
    exact ⟨by rw [sb.fr]; exact e.frames, e.mod, e.bs, e.bsz, e.funs, e.frf, e.hok, e.bare⟩
  refine wpAny_call (codeAny_mono (F.run A X.stack s H ⟨us, []⟩ (us ++ ds) (vs ++ dvs) Q (E σ) sb.room e0 (hb s us I.kIn hl) r2 h) fun r s' hq => ?_)
  cases r with
  | error e => exact hx pins H s e s' I hq
  | ok fl =>
    cases fl with
    | ret u => exact I.after hq
    | next => exact False.elim hq
    | brk => exact False.elim hq
    | cont => exact False.elim hq
theorem run_call {A : Around} (sb : Sub X L A) (ok : Cok0 T P C L X W) (mo : MuOk P) {f : Nat} {us : List Value} {vs : List V} {Q : VK} (I : Inv X pins σ H s) (rv : Vals vs us) (q : CallQ T P C X.K W σ f vs H Q) :
    wpAny (model X.prog X.w) A (call (.ref (T.fa f)) us) (EP X pins σ Q) X.xe s := by
  obtain ⟨as, Hf, r, l, E, hc, post⟩ := q
  obtain ⟨F, hF, h1, h2, hfull⟩ := ok.fill f as r hc
  obtain ⟨hps, hb⟩ := ok.fac.bind f F hF
  obtain ⟨dvs, ds, rd, bd, hl, rr⟩ := hb as.length h1 h2
  have FO := ok.fns f F hF
  refine run_fnA (E := WE W) (dvs := dvs) FO sb bd rd (passAt ok.takes σ) I rv ?_
  have lv : as.length = vs.length := l
  refine ⟨by rw [List.length_append, hl, ← l]; omega, as ++ (F.dfl.drop (as.length + F.dfl.length - F.np)).map EV.fr, Hf, r, ?_, E.app (rr _ _) lv, hfull, ?_⟩
  · rw [List.length_append, List.length_map, List.length_drop]; omega
  · have own : ∀ a, Own ((vs ++ dvs).map some) ((as ++ (F.dfl.drop (as.length + F.dfl.length - F.np)).map EV.fr).map some) H a ↔ Own (vs.map some) (as.map some) H a := fun a => Own.app lv
    have bk : ∀ {Hf' H'}, Back (T.gm X.K) (vs ++ dvs) (as ++ (F.dfl.drop (as.length + F.dfl.length - F.np)).map EV.fr) Hf H Hf' H' → Back (T.gm X.K) vs as Hf H Hf' H' := fun b =>
      ⟨b.sub, b.ext, fun a o h n => b.frame a o h fun z => n ((own a).mp z), fun a h => (b.acc a h).elim (fun z => .inl ((own a).mp z)) .inr⟩
    cases r with
    | exc x => exact fun cls d Hf' H' b xr => post cls d Hf' H' (bk b) xr
    | ret e fin =>
      intro v Hf' H' b fi sr mi
      have mlt : ∀ i ∈ F.mu, i < vs.length := fun i hi => by
        have := mo.lt f F hF i hi
        rw [← l]; omega
      refine post v Hf' H' F hF (bk b) (fi.back mlt) sr fun a h1 => ?_
      obtain ⟨g1, g2⟩ := mi a h1
      refine ⟨g1.elim (fun z => .inl ((own a).mp z)) .inr, fun i hi z => g2 i hi ?_⟩
      rw [List.getElem?_append_left (mlt i hi)]
      exact z
/-- the same where no operand changes: the arguments are data -/
def CallD (T : Tx) (C : Orc) (K : PySem.W.Frag) (W : WX) (σ : St) (f : Nat) (ds : List D) (Hf H : Hp) (Q : V → Hp → Prop) : Prop := ∃ r, C f (ds.map .fr) = some r ∧ match r with
  | .ret e fin => fin = [] ∧ ∀ v Hf' H', Gr Hf H Hf' H' → SR (T.gm K) Hf' H' v e → (∀ a, Has H' e v a → H a = none) → Q v H'
  | .exc x => ∀ cls d Hf' H', Gr Hf H Hf' H' → XR T x cls d H' → W cls d σ H'
theorem noOwn {vs : List V} {ds : List D} {a : Addr} : ¬ Own (vs.map some) ((ds.map EV.fr).map some) H a := by
  rintro ⟨i, e, v, h1, _, h2⟩
  rw [List.getElem?_map, List.getElem?_map] at h1
  cases q : ds[i]? with
  | none => rw [q] at h1; cases h1
  | some d => rw [q] at h1; cases h1; exact h2.fr.elim
theorem ER.data {G : Gm} {vs : List V} {ds : List D} (s : Same Hf H) (r : Reps G Hf vs ds) : ER G (vs.map some) ((ds.map EV.fr).map some) Hf H := by
  refine ⟨s, fun i e h => ?_, fun i j e e' v w a h1 _ _ _ h3 => ?_⟩
  · rw [List.getElem?_map, List.getElem?_map] at h
    cases q : ds[i]? with
    | none => rw [q] at h; cases h
    | some d =>
      rw [q] at h
      cases h
      obtain ⟨v, e1, e2⟩ := r.getD q
      exact ⟨v, by rw [List.getElem?_map, e1]; rfl, e2⟩
  · rw [List.getElem?_map, List.getElem?_map] at h1
    cases q : ds[i]? with
    | none => rw [q] at h1; cases h1
    | some d => rw [q] at h1; cases h1; exact h3.fr.elim
theorem CallD.q {f : Nat} {vs : List V} {ds : List D} {Q : V → Hp → Prop} {K : PySem.W.Frag} (s : Same Hf H) (r : Reps (T.gm K) Hf vs ds) (q : CallD T C K W σ f ds Hf H Q) : CallQ T P C K W σ f vs H Q := by
  obtain ⟨res, hc, post⟩ := q
  refine ⟨ds.map .fr, Hf, res, by rw [List.length_map, r.length], .data s r, hc, ?_⟩
  have gr : ∀ {Hf' H'}, Back (T.gm K) vs (ds.map EV.fr) Hf H Hf' H' → Gr Hf H Hf' H' := fun b =>
    ⟨b.sub, b.ext, fun a o h => b.frame a o h noOwn, fun a h => (b.acc a h).elim (fun z => absurd z noOwn) id⟩
  cases res with
  | exc x => exact fun cls d Hf' H' b xr => post cls d Hf' H' (gr b) xr
  | ret e fin =>
    obtain ⟨rfl, post⟩ := post
    exact fun v Hf' H' F hF b fi sr mi => post v Hf' H' (gr b) sr fun a h1 => (mi a h1).1.elim (fun z => absurd z noOwn) id
theorem run_callD {A : Around} (sb : Sub X L A) (ok : Cok0 T P C L X W) (mo : MuOk P) {f : Nat} {us : List Value} {vs : List V} {ds : List D} {Q : VK} (I : Inv X pins σ H s) (rv : Vals vs us) (sh : Same Hf H) (r : Reps (T.gm X.K) Hf vs ds) (q : CallD T C X.K W σ f ds Hf H Q) :
    wpAny (model X.prog X.w) A (call (.ref (T.fa f)) us) (EP X pins σ Q) X.xe s := run_call sb ok mo I rv (q.q (P := P) sh r)

/-! ### own operators -/
theorem RelV.ne_ni {v : V} {u : Value} (r : RelV v u) : u ≠ .notImplemented := by
  cases v with
  | non => cases (show u = Value.none from r); exact fun z => by cases z
  | bl b => cases (show u = Value.bool b from r); exact fun z => by cases z
  | int i => obtain ⟨t, e⟩ := (show ∃ t, u = Value.int i t from r); cases e; exact fun z => by cases z
  | str x => obtain ⟨t, e⟩ := (show ∃ t, u = Value.str x t from r); cases e; exact fun z => by cases z
  | byt b => obtain ⟨t, e⟩ := (show ∃ t, u = Value.bytes b t from r); cases e; exact fun z => by cases z
  | flt b => obtain ⟨t, e⟩ := (show ∃ t, u = Value.float b t from r); cases e; exact fun z => by cases z
  | ref a => cases (show u = Value.ref a from r); exact fun z => by cases z
  | ty n => cases (show u = Value.type n from r); exact fun z => by cases z
theorem cmpBack_of {Q : Value → Shared → Prop} {u : Value} {s : Shared} (h : u ≠ .notImplemented) (q : Q u s) : PySem.W.CmpBack Q u s := by
  cases u <;> first | exact q | exact absurd rfl h
variable {x y : V} {v u : Value} {Q : VK} {ρ1 : EnvD} {Hf1 : Hp} {an : An}
/-- what dunder says, wanted -/
theorem dunder_q {m : Nat} {c : Nat} {ns : List Nat} {xs : List D} {r : List D} {C' : Orc} {G : Gm} {o : Op} {vs : List V} (z : Frz G Hf1 o C C' vs (.ins c ns xs :: r)) (h : dunder P C' m (.ins c ns xs) r = some an)
    (E : ER (T.gm X.K) σ ρ1 Hf1 H) (f : Fin T X.K W σ ρ1 Hf1 H Q an) (hz : o ≠ .isin) (hz2 : o ≠ .notin) :
    (r.all (insOf c)) = true ∧ ∃ fi, P.meth c m = some fi ∧ C' = C ∧ Reps G Hf1 vs (.ins c ns xs :: r) ∧ CallD T C X.K W σ fi (.ins c ns xs :: r) Hf1 H Q := by
  unfold dunder at h
  dsimp only at h
  cases ha : r.all (insOf c) with
  | false => rw [ha] at h; cases h
  | true =>
  rw [ha] at h
  refine ⟨rfl, ?_⟩
  cases hm : P.meth c m with
  | none => rw [hm] at h; cases h
  | some fi =>
    rw [hm] at h
    have h' : ans (C' fi ((D.ins c ns xs :: r).map EV.fr)) = some an := h
    rcases z with e | ⟨e, z⟩
    · rw [e] at h'; cases h'
    · refine ⟨fi, rfl, e, z.elim id fun w => w.1.elim (fun q => absurd q hz) fun q => absurd q hz2, ?_⟩
      rw [e] at h'
      cases hc : C fi ((D.ins c ns xs :: r).map EV.fr) with
      | none => rw [hc] at h'; cases h'
      | some res =>
        rw [hc] at h'
        refine ⟨res, hc, ?_⟩
        cases res with
        | exc x =>
          cases h'
          exact fun cls d Hf' H' g xr => f cls d Hf' H' (g.stp E).toNil xr
        | ret e fin =>
          cases fin with
          | cons _ _ => cases h'
          | nil =>
            cases h'
            exact ⟨rfl, f⟩
theorem RB.typeC {G : Gm} {Hf : Hp} {c : Nat} {ns : List Nat} {xs : List D} (I : Inv X pins σ H s) (r : RB G Hf H x (.ins c ns xs)) : ∃ a ox od, x = .ref a ∧ PySem.W.InstAt s.heap a ox (G.ca c) od := by
  obtain ⟨a, dx, vs, e, h, _⟩ := r
  obtain ⟨mA, O, _⟩ := ins_get I.hok h
  obtain ⟨od, J, _⟩ := O.look
  exact ⟨a, _, _, e, J⟩
/-- a + b and its like of one's own instances -/
theorem wp_dunder2 (ok : Cok T P C L X W) (mo : MuOk P) {op : Operator} {o : Op} {m : Nat} (hn : T.mn m = PySem.dunder op.info.2) (hm : m ≠ mInit) {d e : D} {C' : Orc} (E : ER (T.gm X.K) σ ρ1 Hf1 H) (r1 : RB (T.gm X.K) Hf1 H x d) (r2 : RB (T.gm X.K) Hf1 H y e)
    (z : Frz (T.gm X.K) Hf1 o C C' [x, y] [d, e]) (h : dunder P C' m d [e] = some an) (f : Fin T X.K W σ ρ1 Hf1 H Q an) (hz : o ≠ .isin) (hz2 : o ≠ .notin)
    (I : Inv X pins σ H s) (rx : RelV x v) (ry : RelV y u) : wpAny (model X.prog X.w) X.A (binaryOp op v u) (EP X pins σ Q) X.xe s := by
  cases d with
  | ins c ns xs =>
    obtain ⟨hall, fi, h1, h2, h3, h4⟩ := dunder_q z h E f hz hz2
    obtain ⟨ns', xs', rfl⟩ : ∃ ns' xs', e = .ins c ns' xs' := by
      rw [List.all_cons, Bool.and_eq_true] at hall
      have h1 := hall.1
      cases e with
      | ins c' ns' xs' => exact ⟨ns', xs', by rw [eq_of_beq (show (c' == c) = true from h1)]⟩
      | _ => cases h1
    obtain ⟨cl, me, sf⟩ := ok.fac.meth c m fi h1 hm
    obtain ⟨a, oxa, oda, rfl, Ja⟩ := r1.typeC I
    obtain ⟨b, oxb, odb, rfl, Jb⟩ := r2.typeC I
    cases rx
    cases ry
    obtain ⟨mm, hF⟩ := I.fr
    refine PySem.W.binop_K (K := X.K) hF I.ok.mod.kin Ja Jb.type sf (by rw [← hn]; exact me.at_) me.fn ?_
    exact thn (run_callD ok.here ok.toCok0 mo I (.cons (show RelV (.ref a) (.ref a) from rfl) (.cons (show RelV (.ref b) (.ref b) from rfl) .nil)) E.sub h3 h4) fun w s' hw => by
      obtain ⟨z, H', I', rz, qz⟩ := id hw
      exact cmpBack_of (RelV.ne_ni rz) hw
  | _ => cases h
/-- -a -/
theorem wp_dunder1 (ok : Cok T P C L X W) (mo : MuOk P) {o : Op} {d : D} {C' : Orc} (E : ER (T.gm X.K) σ ρ1 Hf1 H) (r1 : RB (T.gm X.K) Hf1 H x d)
    (z : Frz (T.gm X.K) Hf1 o C C' [x] [d]) (h : dunder P C' mNeg d [] = some an) (f : Fin T X.K W σ ρ1 Hf1 H Q an) (hz : o ≠ .isin) (hz2 : o ≠ .notin)
    (I : Inv X pins σ H s) (rx : RelV x v) : wpAny (model X.prog X.w) X.A (unaryOp .USub v) (EP X pins σ Q) X.xe s := by
  cases d with
  | ins c ns xs =>
    obtain ⟨_, fi, h1, h2, h3, h4⟩ := dunder_q z h E f hz hz2
    obtain ⟨cl, me, sf⟩ := ok.fac.meth c mNeg fi h1 (by decide)
    obtain ⟨a, oxa, oda, rfl, Ja⟩ := r1.typeC I
    cases rx
    obtain ⟨mm, hF⟩ := I.fr
    refine PySem.W.ksp_neg (K := X.K) hF I.ok.mod.kin Ja (by rw [← ok.fac.nNeg]; exact me.at_) me.fn ?_
    exact run_callD ok.here ok.toCok0 mo I (.cons (show RelV (.ref a) (.ref a) from rfl) .nil) E.sub h3 h4
  | _ => cases h
theorem wp_add (ok : Cok T P C L X W) (mo : MuOk P) (I : Inv X pins σ H s) (rx : RelV x v) (ry : RelV y u) (q : OpQ T P C X.K W σ .add [x, y] H Q) : wpAny (model X.prog X.w) X.A (binaryOp .Add v u) (EP X pins σ Q) X.xe s := by
  obtain ⟨ρ1, Hf1, d, e, C', an, E, r1, r2, z, h, f⟩ := q.two
  have h' : addD P C' d e = some an := h
  unfold addD at h'
  split at h'
  · cases r1.inv_int
    cases r2.inv_int
    cases h'
    exact op_add pins s σ H _ _ v u Q I rx ry ⟨_, _, rfl, rfl, f.val E (.int _)⟩
  · rename_i a b
    cases r1.inv_str
    cases r2.inv_str
    by_cases c : a.length + b.length ≤ most
    · rw [if_pos c] at h'
      cases h'
      exact op_add_str pins s σ H _ _ v u Q I rx ry ⟨_, _, rfl, rfl, most_le c, f.val E (.str _)⟩
    · rw [if_neg c] at h'; cases h'
  · rename_i xs ys
    obtain ⟨a, vs, rfl, h1, rs⟩ := r1
    obtain ⟨b, ws, rfl, h2, rs2⟩ := r2
    by_cases c : xs.length + ys.length ≤ most
    · rw [if_pos c] at h'
      cases h'
      exact op_cat pins s σ H _ _ v u Q I rx ry ⟨_, _, vs, ws, rfl, rfl, h1, h2, by rw [rs.length, rs2.length]; exact most_le c, fun p hp => f.newL E (rs.append rs2) hp⟩
    · rw [if_neg c] at h'; cases h'
  · rename_i xs ys
    obtain ⟨a, vs, rfl, h1, rs⟩ := r1.inv_tup
    obtain ⟨b, ws, rfl, h2, rs2⟩ := r2.inv_tup
    by_cases c : xs.length + ys.length ≤ most
    · rw [if_pos c] at h'
      cases h'
      refine op_catA pins s σ H _ _ v u Q I rx ry ⟨_, _, vs, ws, rfl, rfl, SqT.same E.sub h1, SqT.same E.sub h2, by rw [rs.length, rs2.length]; exact most_le c, fun e => ?_, fun _ e => ?_, fun _ _ p hp => f.newT E (rs.append rs2) hp⟩
      · subst e
        cases rs
        exact f.val E (.tup h2 rs2)
      · subst e
        cases rs2
        rw [List.append_nil] at f
        exact f.val E (.tup h1 rs)
    · rw [if_neg c] at h'; cases h'
  · exact wp_dunder2 ok mo (op := .Add) (by exact ok.fac.nAdd) (by decide) E r1 r2 z h' f (fun z => by cases z) (fun z => by cases z) I rx ry
theorem wp_sub (ok : Cok T P C L X W) (mo : MuOk P) (I : Inv X pins σ H s) (rx : RelV x v) (ry : RelV y u) (q : OpQ T P C X.K W σ .sub [x, y] H Q) : wpAny (model X.prog X.w) X.A (binaryOp .Sub v u) (EP X pins σ Q) X.xe s := by
  obtain ⟨ρ1, Hf1, d, e, C', an, E, r1, r2, z, h, f⟩ := q.two
  have h' : subD P C' d e = some an := h
  unfold subD at h'
  split at h'
  · cases r1.inv_int
    cases r2.inv_int
    cases h'
    exact op_sub pins s σ H _ _ v u Q I rx ry ⟨_, _, rfl, rfl, f.val E (.int _)⟩
  · exact wp_dunder2 ok mo (op := .Sub) (by exact ok.fac.nSub) (by decide) E r1 r2 z h' f (fun z => by cases z) (fun z => by cases z) I rx ry
theorem tuple_mul1 (l : Addr) (items : Array Value) (n : Nat) (dd : Option Addr) (sl : Array (Option Value)) (u : Tok) :
    Meets (Builtin.«tuple.__mul__» ⟨[.ref l, .int 1 u], []⟩) (fun _ R s => s.heap.get? l = some { cls := .type "tuple", dict := dd, data := .seq items n, slots := sl } ∧ R (.ok (.ret (.ref l))) s) :=
  .of_wp fun prog w A R s h => by
    obtain ⟨hp, g, d, tk, os⟩ := s
    obtain ⟨hl, h⟩ := h
    have f1 := AutoSeq1.idx_int
    have c0 : (decide ((1 : Int) < -(2 ^ 63)) || decide ((1 : Int) ≥ 2 ^ 63)) = false := by decide
    have c1 : (items.isEmpty || (1 : Int) == 1) = true := by simp
    wp_walk using PyProof.Rows.wpAny_loadPart' hl
    repeat (first
      | (refine wpAny_ite_false (decide_eq_false (by rw [c0]; exact Bool.false_ne_true)) ?_; wp_walk using PyProof.Rows.wpAny_loadPart' hl))
    exact ⟨_, rfl, h⟩
/-- a tuple, once: itself -/
def rRepT1 (K : PySem.W.Frag) : R2 := fun x y H Q => ∃ l xs, x = .ref l ∧ y = .int 1 ∧ SqT K H l xs ∧ Q (.ref l) H
theorem op_repT1 : OpR X (binaryOp .Mult) (rRepT1 X.K) := by
  intro pins s σ H x y v u Q I rx ry h
  obtain ⟨l, xs, rfl, rfl, hT, q⟩ := h
  cases rx
  obtain ⟨t, rfl⟩ := ry
  obtain ⟨its, r, ⟨⟨cls, dd, data, sl⟩, ho, hc, n, hd⟩, hs⟩ := I.tuple hT
  simp only at hc hd
  subst hc hd
  refine wpAny_binaryOp_repeat_ref (T := "tuple") (U := "int") (by decide) ⟨_, ho, rfl⟩ (fun s' => typeIs_int s' 1 t) noFill_tuple_mul F.fills_int_mul F.slot_int_rmul repeat_tuple F.slot_int_index.lookup
    (call_meets F.slot_int_rmul (typeIs_int s 1 t) F.entry_int_rmul (F.args_int_rmul_2 _ _) (int_rmul_tuple 1 t l its.toArray n dd sl)
      ⟨ho, rfl, ⟨_, ho, rfl⟩, call_meets F.slot_tuple_mul ⟨_, ho, rfl⟩ F.entry_tuple_mul (F.args_tuple_mul_2 _ _) (tuple_mul1 l its.toArray n dd sl t) ⟨ho, ?_⟩⟩)
  exact ⟨.ref l, _, I, rfl, q⟩
theorem Reps.rep {G : Gm} {H : Hp} {vs : List V} {xs : List D} (r : Reps G H vs xs) : ∀ m : Nat, Reps G H (List.replicate m vs).flatten (List.replicate m xs).flatten
  | 0 => .nil
  | m + 1 => by
    rw [List.replicate_succ, List.replicate_succ, List.flatten_cons, List.flatten_cons]
    exact r.append (r.rep m)
theorem wp_mul (ok : Cok T P C L X W) (mo : MuOk P) (I : Inv X pins σ H s) (rx : RelV x v) (ry : RelV y u) (q : OpQ T P C X.K W σ .mul [x, y] H Q) : wpAny (model X.prog X.w) X.A (binaryOp .Mult v u) (EP X pins σ Q) X.xe s := by
  obtain ⟨ρ1, Hf1, d, e, C', an, E, r1, r2, z, h, f⟩ := q.two
  have h' : mulD P C' d e = some an := h
  unfold mulD at h'
  split at h'
  · rename_i i j
    cases r1.inv_int
    cases r2.inv_int
    by_cases c : mulOk i j = true
    · rw [if_pos c] at h'
      cases h'
      obtain ⟨t, rfl⟩ := rx
      obtain ⟨t', rfl⟩ := ry
      exact PyProof.Rows.mul_int ⟨.int _, H, I.tok _, ⟨_, rfl⟩, f.val E (.int _)⟩ (mulOk_ok c)
    · rw [if_neg c] at h'; cases h'
  · rename_i xs k
    obtain ⟨a, vs, rfl, h1, rs⟩ := r1.inv_tup
    cases r2.inv_int
    by_cases c : (1 ≤ k ∧ k ≤ 1000) ∧ (xs ≠ [] ∧ xs.length ≤ 1000)
    · rw [if_pos c] at h'
      cases h'
      by_cases c1 : k = 1
      · subst c1
        have e1 : (List.replicate (1 : Int).toNat xs).flatten = xs := by simp
        rw [e1] at f
        exact op_repT1 pins s σ H _ _ v u Q I rx ry ⟨a, vs, rfl, rfl, SqT.same E.sub h1, f.val E (.tup h1 rs)⟩
      · refine op_repT pins s σ H _ _ v u Q I rx ry ⟨a, k, vs, rfl, rfl, SqT.same E.sub h1, ?_, by omega, by omega, by rw [rs.length]; exact c.2.2, fun p hp => f.newT E (rs.rep k.toNat) hp⟩
        intro e
        have := rs.length
        rw [e] at this
        exact c.2.1 (List.eq_nil_of_length_eq_zero this.symm)
    · rw [if_neg c] at h'; cases h'
  · rename_i xs k
    obtain ⟨a, vs, rfl, h1, rs⟩ := (show ∃ a vs, x = V.ref a ∧ H a = some (.lst vs) ∧ Reps (T.gm X.K) Hf1 vs xs from r1)
    cases r2.inv_int
    by_cases c : (0 ≤ k ∧ k ≤ 1000) ∧ xs.length ≤ 1000
    · rw [if_pos c] at h'
      cases h'
      refine op_rep pins s σ H _ _ v u Q I rx ry ⟨a, k, vs, rfl, rfl, h1, by omega, by omega, ?_, fun p hp => f.newL E (rs.rep k.toNat) hp⟩
      rw [rs.length, sizeLine_eq]
      have := Nat.mul_le_mul c.2 (show k.toNat ≤ 1000 by omega)
      omega
    · rw [if_neg c] at h'; cases h'
  · exact wp_dunder2 ok mo (op := .Mult) (by exact ok.fac.nMul) (by decide) E r1 r2 z h' f (fun z => by cases z) (fun z => by cases z) I rx ry
theorem wp_neg (ok : Cok T P C L X W) (mo : MuOk P) (I : Inv X pins σ H s) (rx : RelV x v) (q : OpQ T P C X.K W σ .neg [x] H Q) : wpAny (model X.prog X.w) X.A (unaryOp .USub v) (EP X pins σ Q) X.xe s := by
  obtain ⟨ρ1, Hf1, d, C', an, E, r1, z, h, f⟩ := q.one
  have h' : negD P C' d = some an := h
  unfold negD at h'
  split at h'
  · cases r1.inv_int
    cases h'
    exact un_neg pins s σ H _ v Q I rx ⟨_, rfl, f.val E (.int _)⟩
  · exact wp_dunder1 ok mo E r1 z h' f (fun z => by cases z) (fun z => by cases z) I rx

/-! ### fields -/
theorem look_zip {G : Gm} (inj : ∀ i j, G.fn i = G.fn j → i = j) (f : Nat) : ∀ {ns : List Nat} {vs : List V} {xs : List D} {d : D}, Reps G Hf vs xs → lookF f ns xs = some d → ∃ v, ((ns.map G.fn).zip vs).lookup (G.fn f) = some v ∧ Rep G Hf v d
  | [], _, xs, d, r, h => by cases xs <;> cases h
  | _ :: _, _, [], d, r, h => by cases h
  | n :: ns, _, x :: xs, d, .cons (v := v) h r, q => by
    have q' : (if n = f then some x else lookF f ns xs) = some d := q
    show ∃ w, List.lookup (G.fn f) ((G.fn n, v) :: (ns.map G.fn).zip _) = some w ∧ _
    rw [List.lookup_cons]
    by_cases e : n = f
    · rw [if_pos e] at q'
      cases q'
      rw [e, beq_self_eq_true]
      exact ⟨v, rfl, h⟩
    · rw [if_neg e] at q'
      have ne : (G.fn f == G.fn n) = false := beq_eq_false_iff_ne.mpr fun z => e (inj _ _ z.symm)
      rw [ne]
      exact look_zip inj f r q'
theorem wp_attr (ok : Cok T P C L X W) {f : Nat} {b : Bool} (I : Inv X pins σ H s) (rx : RelV x v) (q : OpQ T P C X.K W σ (.attr f) [x] H Q) : wpAny (model X.prog X.w) X.A (getAttr v (T.fn f) b) (EP X pins σ Q) X.xe s := by
  obtain ⟨ρ1, Hf1, d, C', an, E, r1, z, h, fi⟩ := q.one
  have h' : attrD P f d = some an := h
  unfold attrD at h'
  split at h'
  · rename_i c ns xs
    by_cases hf : P.fld c f = true
    · rw [if_pos hf] at h'
      cases hl : lookF f ns xs with
      | none => rw [hl] at h'; cases h'
      | some d =>
        rw [hl] at h'
        cases h'
        obtain ⟨a, dx, vs, rfl, h1, rs, ln⟩ := r1
        cases rx
        obtain ⟨w, e1, e2⟩ := look_zip (G := T.gm X.K) ok.fac.inj f rs hl
        obtain ⟨cl, na⟩ := ok.fac.fld c f hf
        exact getattr_ok I h1 cl na e1 fun u s' I' ru => ⟨w, H, I', ru, fi.val E e2⟩
    · rw [if_neg hf] at h'; cases h'
  · cases h'
end
end Ev
/-! Ev: == and != of lists and tuples whose items are compared by an own ==. -/
namespace EvNe
open PySem PySem.SeqAt GQ
open AutoSeq1 (wpAny_loadPart')
open MeetsSeq MeetsSeq2 MeetsSeq3 SeqRoads2
section
variable {pr : Program} {wo : World} {Ar : Around} {Re : Result → Shared → Prop}
theorem loop_ne {p q : Addr} {N : Nat} {J : Nat → Shared → Prop} (step : ListI pr wo Ar (fun e s' => Re (.error e) s') p q N J) (done : ∀ t, J N t → Re (.ok (.ret (.bool false))) t) : ∀ (j i : Nat), N - i = j → i ≤ N → ∀ t, J i t →
    wpAny (model pr wo) Ar.in1 (Builtin.«list.__eq__.loop» ⟨[.ref p, .ref q, rawInt i, rawInt 3], []⟩) (FinOf pr wo Ar Re) (fun e s' => Re (.error e) s') t := by
  intro j
  induction j with
  | zero =>
    intro i hj hi t ht
    obtain ⟨xs, ys, m, m2, gp, gq, sx, sy, _⟩ := step _ _ ht
    have hiN : i = N := by omega
    have fine := done t (hiN ▸ ht)
    obtain ⟨hp, g, d, tk, os⟩ := t
    wp_walk using wpAny_loadPart' gp, wpAny_loadPart' gq
    have nx : xs[((i : Nat) : Int).toNat]? = none := by simp; omega
    have ny : ys[((i : Nat) : Int).toNat]? = none := by simp; omega
    rw [nx, ny]
    wp_walk using wpAny_loadPart' gp, wpAny_loadPart' gq
    show Re (.ok (.ret (.bool (xs.size != ys.size)))) _
    rw [sx, sy]
    simpa using fine
  | succ j ih =>
    intro i hj hi t ht
    obtain ⟨xs, ys, m, m2, gp, gq, sx, sy, turn⟩ := step _ _ ht
    have lx : i < xs.size := by omega
    have ly : i < ys.size := by omega
    have tn := turn lx ly
    obtain ⟨hp, g, d, tk, os⟩ := t
    wp_walk using wpAny_loadPart' gp, wpAny_loadPart' gq
    have nx : xs[((i : Nat) : Int).toNat]? = some xs[i] := by simp [lx]
    have ny : ys[((i : Nat) : Int).toNat]? = some ys[i] := by simp [ly]
    have up : ((i : Int) + 1) = ((i + 1 : Nat) : Int) := by omega
    rw [nx, ny]
    refine wpAny_bind (wpAny_mono tn (fun r t2 z => ?_) fun _ _ y => y)
    obtain ⟨rfl, z⟩ := z
    have again := ih (i + 1) (by omega) (by omega) t2 z
    obtain ⟨hp2, g2, d2, tk2, os2⟩ := t2
    wp_walk
    rw [up]
    exact ⟨plainId_quiet plain_eq_loop _, codeAny_builtin entry_eq_loop (by rw [Around.under_plainId plain_eq_loop _]; exact again)⟩
theorem list_ne {p q : Addr} {N : Nat} {J : Nat → Shared → Prop} (step : ListI pr wo Ar (fun e s' => Re (.error e) s') p q N J) (done : ∀ t, J N t → Re (.ok (.ret (.bool false))) t) {t : Shared} (ht : J 0 t) :
    wpAny (model pr wo) Ar.in1 (Builtin.«list.__ne__» ⟨[.ref p, .ref q], []⟩) (FinOf pr wo Ar Re) (fun e s' => Re (.error e) s') t := by
  obtain ⟨xs, ys, m, m2, gp, gq, sx, sy, _⟩ := step _ _ ht
  have again := loop_ne step done _ 0 rfl (Nat.zero_le _) t ht
  obtain ⟨hp, g, d, tk, os⟩ := t
  have sub := AutoSeq1.sub_list_list
  have same : ¬ (xs.size != ys.size) = true := by simp [sx, sy]
  wp_walk using wpAny_loadPart' gp, wpAny_loadPart' gq
  exact ⟨plainId_quiet plain_eq_loop _, codeAny_builtin entry_eq_loop (by rw [Around.under_plainId plain_eq_loop _]; exact again)⟩
theorem tuple_ne {p q : Addr} {xs ys : Array Value} {m m2 : Nat} {dd dd2 : Option Addr} {sl sl2 : Array (Option Value)} (hsz : xs.size = ys.size) {J : Nat → Shared → Prop}
    (turn : ∀ i (h1 : i < xs.size) (h2 : i < ys.size) s, J i s → wpAny (model pr wo) Ar.in1 (eqBool xs[i] ys[i]) (fun r s' => r = true ∧ J (i + 1) s') (fun e s' => Re (.error e) s') s)
    (done : ∀ t, J xs.size t → Re (.ok (.ret (.bool false))) t) {t : Shared} (gp : t.heap.get? p = some { cls := .type "tuple", dict := dd, data := .seq xs m, slots := sl }) (gq : t.heap.get? q = some { cls := .type "tuple", dict := dd2, data := .seq ys m2, slots := sl2 }) (ht : J 0 t) :
    wpAny (model pr wo) Ar.in1 (Builtin.«tuple.__ne__» ⟨[.ref p, .ref q], []⟩) (FinOf pr wo Ar Re) (fun e s' => Re (.error e) s') t := by
  have sub := AutoSeq1.sub_tuple_tuple
  have zl : (xs.toList.zip ys.toList).length = xs.size := by simp [hsz]
  have start := ht
  obtain ⟨hp, g, d, tk, os⟩ := t
  wp_walk using wpAny_loadPart' gp, wpAny_loadPart' gq, wpAny_forIn_list _ (fun rest b s' => b.1 = none ∧ ∃ i, rest = (xs.toList.zip ys.toList).drop i ∧ i ≤ xs.size ∧ J i s') _
  case turn =>
    rintro ⟨u, v⟩ rest b s' ⟨hb, i, hz, hi, hJ⟩
    have lt : i < (xs.toList.zip ys.toList).length := by
      rcases Nat.lt_or_ge i (xs.toList.zip ys.toList).length with z | z
      · exact z
      · rw [List.drop_of_length_le z] at hz; cases hz
    have l1 : i < xs.size := zl ▸ lt
    have l2 : i < ys.size := hsz ▸ l1
    rw [List.drop_eq_getElem_cons lt] at hz
    injection hz with huv hrest
    have hu : u = xs[i] := by have := congrArg Prod.fst huv; simpa using this
    have hv : v = ys[i] := by have := congrArg Prod.snd huv; simpa using this
    subst hu hv
    refine wpAny_bind (wpAny_mono (turn i l1 l2 s' hJ) (fun r s2 q2 => ?_) fun _ _ y => y)
    obtain ⟨hr, q2⟩ := q2
    subst hr
    wp_walk
    exact ⟨rfl, i + 1, hrest, l1, q2⟩
  case fin =>
    rintro ⟨b1, b2⟩ s' ⟨hb, i, hz, hi, hJ⟩
    simp only at hb
    subst hb
    have ge : xs.size ≤ i := by
      rcases Nat.lt_or_ge i (xs.toList.zip ys.toList).length with z | z
      · rw [List.drop_eq_getElem_cons z] at hz; cases hz
      · exact zl ▸ z
    have hi' : i = xs.size := by omega
    have fine : Re (.ok (.ret (.bool false))) s' := done s' (hi' ▸ hJ)
    wp_walk
    simpa [Builtin.Tuple.tupleCompareSizes, hsz] using fine
  case h =>
    exact ⟨rfl, 0, rfl, Nat.zero_le _, start⟩
end
section
variable {pr : Program} {wo : World} {Ar : Around} {Ee : Value → Shared → Prop} {t : Shared}
theorem rc_list {p q : Addr} {N : Nat} {Q : Value → Shared → Prop} {J : Nat → Shared → Prop} (room : Ar.units < cLine) (step : ListI pr wo Ar Ee p q N J) (done : ∀ t, J N t → Q (.bool false) t) (ht : J 0 t) : wpAny (model pr wo) Ar (richCompare .NotEq (.ref p) (.ref q)) Q Ee t := by
  obtain ⟨xs, ys, m, m2, gp, gq, _, _, _⟩ := step _ _ ht
  refine wpAny_richCompare_same_room (op := .NotEq) ⟨_, gp, rfl⟩ ⟨_, gq, rfl⟩ F.slot_list_ne (call_here F.slot_list_ne ⟨_, gp, rfl⟩ F.entry_list_ne (F.args_list_ne_2 _ _) ?_) room
  exact list_ne (Re := wants (fun v s' => v ≠ .notImplemented ∧ Q v s') Ee) step (fun s' z => ⟨(fun x => nomatch x), done s' z⟩) ht
theorem rc_tup {p q : Addr} {xs ys : Array Value} {Q : Value → Shared → Prop} {J : Nat → Shared → Prop} (hsz : xs.size = ys.size) (room : Ar.units < cLine) (hp : t.heap.IsTuple p xs) (hq : t.heap.IsTuple q ys)
    (turn : ∀ i (h1 : i < xs.size) (h2 : i < ys.size) s, J i s → wpAny (model pr wo) Ar.in1 (eqBool xs[i] ys[i]) (fun r s' => r = true ∧ J (i + 1) s') Ee s)
    (done : ∀ t, J xs.size t → Q (.bool false) t) (ht : J 0 t) : wpAny (model pr wo) Ar (richCompare .NotEq (.ref p) (.ref q)) Q Ee t := by
  obtain ⟨⟨c1, dd, data, sl⟩, ho, hc, n, hd⟩ := id hp
  obtain ⟨⟨c2, dd2, data2, sl2⟩, ho2, hc2, n2, hd2⟩ := id hq
  simp only at hc hd hc2 hd2
  subst hc hd hc2 hd2
  refine wpAny_richCompare_same_room (op := .NotEq) ⟨_, ho, rfl⟩ ⟨_, ho2, rfl⟩ F.slot_tuple_ne (call_here F.slot_tuple_ne ⟨_, ho, rfl⟩ F.entry_tuple_ne (F.args_tuple_ne_2 _ _) ?_) room
  exact tuple_ne (Re := wants (fun v s' => v ≠ .notImplemented ∧ Q v s') Ee) hsz turn (fun s' z => ⟨(fun x => nomatch x), done s' z⟩) ho ho2 ht
end
end EvNe
/-! Ev 7: ==, !=, in, not in. -/
namespace Ev
open PySem PySem.Spec L2

mutual
theorem pl_plain : ∀ (n : Nat) (d : D), pl n d = true → (pyD d).plain = true ∧ (pyD d).depth ≤ n
  | _, .non, _ => ⟨rfl, Nat.zero_le _⟩
  | _, .bl _, _ => ⟨rfl, Nat.zero_le _⟩
  | _, .int _, _ => ⟨rfl, Nat.zero_le _⟩
  | _, .str _, _ => ⟨rfl, Nat.zero_le _⟩
  | 0, .tup xs, h => by cases h
  | 0, .lst xs, h => by cases h
  | n + 1, .tup xs, h => by
    obtain ⟨a, b⟩ := pls_plain n xs h
    refine ⟨a, ?_⟩
    show PyData.depth (.tuple (pyDs xs)) ≤ _
    rw [PyData.depth]
    omega
  | n + 1, .lst xs, h => by
    obtain ⟨a, b⟩ := pls_plain n xs h
    refine ⟨a, ?_⟩
    show PyData.depth (.list (pyDs xs)) ≤ _
    rw [PyData.depth]
    omega
  | 0, .frz _, h => by cases h
  | _ + 1, .frz _, h => by cases h
  | 0, .ins _ _ _, h => by cases h
  | _ + 1, .ins _ _ _, h => by cases h
theorem pls_plain : ∀ (n : Nat) (xs : List D), pls n xs = true → PyData.plainAll (pyDs xs) = true ∧ PyData.depthAll (pyDs xs) ≤ n
  | _, [], _ => ⟨rfl, Nat.zero_le _⟩
  | n, x :: xs, h => by
    rw [pls, Bool.and_eq_true] at h
    obtain ⟨a, b⟩ := pl_plain n x h.1
    obtain ⟨c, d⟩ := pls_plain n xs h.2
    refine ⟨?_, ?_⟩
    · show ((pyD x).plain && PyData.plainAll (pyDs xs)) = true
      rw [a, c]; rfl
    · show PyData.depthAll (pyD x :: pyDs xs) ≤ n
      rw [PyData.depthAll]
      exact Nat.max_le.mpr ⟨b, d⟩
end
section
variable {G : Gm} {Hf H : Hp} {X : Cx} {pins : List (Addr × Obj)} {σ : St} {s : Shared}
mutual
theorem Rep.reads (I : Inv X pins σ H s) (e : Same Hf H) (hk : G.K = X.K) : ∀ {n : Nat} {d : D} {v : V} {u : Value}, Rep G Hf v d → pl n d = true → RelV v u → ∃ as, Reads s.heap u (pyD d) as
  | _, _, _, _, .non, _, r => by cases r; exact ⟨_, .none⟩
  | _, _, _, _, .bl b, _, r => by cases r; exact ⟨_, .bool b⟩
  | _, _, _, _, .int i, _, r => by obtain ⟨t, rfl⟩ := r; exact ⟨_, .int i t⟩
  | _, _, _, _, .str x, _, r => by obtain ⟨t, rfl⟩ := r; exact ⟨_, .str x t⟩
  | 0, _, _, _, .tup _ _, h, _ => by cases h
  | 0, _, _, _, .lst _ _, h, _ => by cases h
  | n + 1, _, _, _, .tup h rs, hp, r => by
    cases r
    obtain ⟨its, rv, ⟨o, e1, e2, k, e3⟩, _⟩ := I.tuple (SqT.same e (hk ▸ h))
    obtain ⟨as, ra⟩ := Reps.reads I e hk rs hp rv
    exact ⟨_, .tuple e1 e2 e3 (by simpa using ra)⟩
  | n + 1, _, _, _, .lst h rs, hp, r => by
    cases r
    obtain ⟨_, its, k, rv, e1⟩ := I.hok _ _ (e _ _ h)
    obtain ⟨as, ra⟩ := Reps.reads I e hk rs hp rv
    exact ⟨_, .list e1 rfl rfl (by simpa using ra)⟩
  | 0, _, _, _, .frz _ _, h, _ => by cases h
  | _ + 1, _, _, _, .frz _ _, h, _ => by cases h
  | 0, _, _, _, .ins _ _ _, h, _ => by cases h
  | _ + 1, _, _, _, .ins _ _ _, h, _ => by cases h
theorem Reps.reads (I : Inv X pins σ H s) (e : Same Hf H) (hk : G.K = X.K) : ∀ {n : Nat} {ds : List D} {vs : List V} {us : List Value}, Reps G Hf vs ds → pls n ds = true → Vals vs us → ∃ as, ReadsAll s.heap us (pyDs ds) as
  | _, _, _, _, .nil, _, .nil => ⟨_, .nil⟩
  | n, _, _, _, .cons h r, hp, .cons rv rvs => by
    rw [pls, Bool.and_eq_true] at hp
    obtain ⟨as, a⟩ := Rep.reads I e hk h hp.1 rv
    obtain ⟨bs, b⟩ := Reps.reads I e hk r hp.2 rvs
    exact ⟨_, .cons a b⟩
end
theorem RB.reads (I : Inv X pins σ H s) (e : Same Hf H) (hk : G.K = X.K) {n : Nat} {d : D} {v : V} {u : Value} (h : RB G Hf H v d) (hp : pl n d = true) (r : RelV v u) : ∃ as, Reads s.heap u (pyD d) as := by
  cases d with
  | lst xs =>
    obtain ⟨a, vs, rfl, h1, h2⟩ := h
    cases n with
    | zero => cases hp
    | succ n =>
      cases r
      obtain ⟨_, its, k, rv, e1⟩ := I.hok _ _ h1
      obtain ⟨as, ra⟩ := Reps.reads I e hk h2 hp rv
      exact ⟨_, .list e1 rfl rfl (by simpa using ra)⟩
  | ins c ns xs => cases n <;> cases hp
  | non => exact Rep.reads I e hk h hp r
  | bl b => exact Rep.reads I e hk h hp r
  | int b => exact Rep.reads I e hk h hp r
  | str b => exact Rep.reads I e hk h hp r
  | tup b => exact Rep.reads I e hk h hp r
  | frz b => exact Rep.reads I e hk h hp r
end

section
variable {T : Tx} {P : Prog} {C : Orc} {L : Nat} {X : Cx} {W : WX} {pins : List (Addr × Obj)} {σ : St} {H Hf : Hp} {s : Shared}
variable {x y : V} {v u : Value} {Q : VK} {ρ1 : EnvD} {Hf1 : Hp} {an : An} {d e : D} {b : Bool}
/-- the own ==, called -/
theorem eq_call (ok : Cok T P C L X W) {C' : Orc} {o : Op} {c : Nat} {ns : List Nat} {xs : List D} {vs : List V} {bb : Bool} (hz : o ≠ .isin) (hz2 : o ≠ .notin)
    (E : ER (T.gm X.K) σ ρ1 Hf1 H) (z : Frz (T.gm X.K) Hf1 o C C' vs [.ins c ns xs, e]) {f : Nat} (h : C' f [.fr (.ins c ns xs), .fr e] = some (.ret (.fr (.bl bb)) [])) {Q' : VK} (q : ∀ H', Gr Hf1 H Hf1 H' ∨ (∃ Hf', Gr Hf1 H Hf' H') → Q' (.bl bb) H') :
    Reps (T.gm X.K) Hf1 vs [.ins c ns xs, e] ∧ CallD T C X.K W σ f [.ins c ns xs, e] Hf1 H Q' := by
  rcases z with e' | ⟨e', z⟩
  · rw [e'] at h; cases h
  · refine ⟨z.elim id fun w => w.1.elim (fun q => absurd q hz) fun q => absurd q hz2, ?_⟩
    rw [e'] at h
    refine ⟨_, h, rfl, fun v Hf' H' g sr _ => ?_⟩
    cases (show Rep (T.gm X.K) Hf' v (.bl bb) from sr)
    exact q H' (.inr ⟨Hf', g⟩)
theorem looksRef {M : Model} {h : Heap} {a : Addr} {o : Obj} (e : h.get? a = some o) : PySem.W.Looks M h (typeOf (.ref a)) o.cls := (PySem.W.Looks.ld e).andThen .now
/-- the other value's type does not come first -/
theorem eqOk_first (fac : Fac T P X.K X.mg) {c f : Nat} (hm : P.meth c mEq = some f) (hq : eqOk P c e = true) (I : Inv X pins σ H s) (r : RB (T.gm X.K) Hf H y e) (ry : RelV y u) (sh : Same Hf H) :
    ∃ tb, PySem.W.Looks (model X.prog X.w) s.heap (typeOf u) tb ∧ PySem.W.notFirst X.K (T.ca c) tb = true := by
  obtain ⟨_, _, _, _, hs⟩ := fac.eqs c f hm
  have nf : ∀ t ∈ bltT, PySem.W.notFirst X.K (T.ca c) (.type t) = true := fun t ht => by
    unfold PySem.W.notFirst
    rw [hs t ht]
    simp
  cases e with
  | non => cases r.inv_non; cases ry; exact ⟨_, .of_pure rfl, nf "NoneType" (by simp [bltT])⟩
  | bl b => cases r.inv_bl; cases ry; exact ⟨_, .of_pure rfl, nf "bool" (by simp [bltT])⟩
  | int i => cases r.inv_int; obtain ⟨t, rfl⟩ := ry; exact ⟨_, .of_pure rfl, nf "int" (by simp [bltT])⟩
  | str i => cases r.inv_str; obtain ⟨t, rfl⟩ := ry; exact ⟨_, .of_pure rfl, nf "str" (by simp [bltT])⟩
  | tup xs =>
    obtain ⟨a, vs, rfl, h1, _⟩ := r.inv_tup
    cases ry
    obtain ⟨its, _, ⟨o, e1, e2, _⟩, _⟩ := I.tuple (SqT.same sh h1)
    exact ⟨_, e2 ▸ looksRef e1, nf "tuple" (by simp [bltT])⟩
  | lst xs =>
    obtain ⟨a, vs, rfl, h1, _⟩ := r
    cases ry
    obtain ⟨_, its, k, _, e1⟩ := I.hok _ _ h1
    exact ⟨_, looksRef e1, nf "list" (by simp [bltT])⟩
  | frz xs =>
    obtain ⟨a, vs, rfl, h1, _⟩ := r.inv_frz
    cases ry
    obtain ⟨its, _, ⟨o, _, e1, e2, _⟩, _⟩ := I.list (sh.seq h1)
    exact ⟨_, e2 ▸ looksRef e1, nf "list" (by simp [bltT])⟩
  | ins c' ns xs =>
    obtain ⟨a, ox, od, rfl, J⟩ := RB.typeC I r
    cases ry
    refine ⟨_, J.type, ?_⟩
    unfold PySem.W.notFirst
    unfold eqOk at hq
    rw [Bool.or_eq_true] at hq
    rcases hq with hq | hq
    · rw [eq_of_beq hq]; simp
    · rw [fac.sub c' c false (eq_of_beq hq)]; simp
/-- the rooms -/
theorem Cok.units (ok : Cok T P C L X W) : X.A.units + 7 < cLine := by
  have := ok.room.units
  omega
/-! ### lists and tuples, item by item -/
/-- equal for sure, as they lie -/
def DEq (T : Tx) (P : Prog) (C : Orc) (K : PySem.W.Frag) (n : Nat) : Eqv := fun x y H => ∃ d e, Rep (T.gm K) H x d ∧ Rep (T.gm K) H y e ∧ eqT P C n d e = true
theorem mon_DEq {n : Nat} : Mon (DEq T P C X.K n) := fun x y H H' ex ⟨d, e, h1, h2, h3⟩ => ⟨d, e, h1.mono ex, h2.mono ex, h3⟩
theorem eq0_ins {c : Nat} {ns : List Nat} {xs : List D} {e : D} (h : eq0 P C (.ins c ns xs) e = true) : ∃ c' ns' xs' f, e = .ins c' ns' xs' ∧ eqOk P c e = true ∧ P.meth c mEq = some f ∧ C f [.fr (.ins c ns xs), .fr e] = some (.ret (.fr (.bl true)) []) := by
  cases e with
  | ins c' ns' xs' =>
    have h' : (eqOk P c (.ins c' ns' xs') && (match P.meth c mEq with
      | some f => match C f [.fr (.ins c ns xs), .fr (.ins c' ns' xs')] with
        | some (.ret (.fr (.bl true)) []) => true
        | _ => false
      | none => false)) = true := h
    rw [Bool.and_eq_true] at h'
    obtain ⟨h1, h2⟩ := h'
    cases hm : P.meth c mEq with
    | none => rw [hm] at h2; cases h2
    | some f =>
      rw [hm] at h2
      dsimp only at h2
      split at h2
      · rename_i hc; exact ⟨_, _, _, f, rfl, h1, rfl, hc⟩
      · cases h2
  | _ => cases h
theorem eq0_flat {d e : D} (h : eq0 P C d e = true) (hd : atom d = true) : atom e = true ∧ eqV (atomV d) (atomV e) = true := by
  cases d <;> cases hd <;> cases e <;> first | (cases h; done) | (refine ⟨rfl, ?_⟩; first | rfl | exact h)
theorem eq0_kind {d e : D} (h : eq0 P C d e = true) : atom d = true ∨ ∃ c ns xs, d = .ins c ns xs := by
  cases d with
  | ins c ns xs => exact .inr ⟨c, ns, xs, rfl⟩
  | tup _ => cases e <;> cases h
  | lst _ => cases e <;> cases h
  | frz _ => cases e <;> cases h
  | _ => exact .inl rfl
theorem atom_flatV {d : D} (h : atom d = true) : flatV (atomV d) = true := by cases d <;> first | rfl | cases h
theorem eqG_0 (ok : Cok T P C L X W) (mo : MuOk P) {n : Nat} (A : Around) (pins : List (Addr × Obj)) (s : Shared) (σ : St) (H : Hp) (x y : V) (u v : Value) (sb : Sub X (L + n) A) (I : Inv X pins σ H s) (rx : RelV x u) (ry : RelV y v) {d e : D} (r1 : Rep (T.gm X.K) H x d) (r2 : Rep (T.gm X.K) H y e) (h : eq0 P C d e = true) :
    wpAny (model X.prog X.w) A (PySem.eqBool u v) (fun r s' => r = true ∧ ∃ H', Inv X pins σ H' s' ∧ Ext H H') X.xe s := by
  rcases eq0_kind h with hd | ⟨c, ns, xs, rfl⟩
  · obtain ⟨he, hv⟩ := eq0_flat h hd
    have e1 := r1.atom_eq hd
    have e2 := r2.atom_eq he
    subst e1 e2
    exact eqG_flat A pins s σ H _ _ u v (sb.mono (Nat.zero_le _)) I rx ry ⟨atom_flatV hd, atom_flatV he, hv⟩
  · obtain ⟨c', ns', xs', f, rfl, q2, hm, hc⟩ := eq0_ins h
    obtain ⟨cl, me, _⟩ := ok.fac.eqs c f hm
    have b1 : RB (T.gm X.K) H H x (.ins c ns xs) := .of (Same.refl _) r1
    have b2 : RB (T.gm X.K) H H y (.ins c' ns' xs') := .of (Same.refl _) r2
    obtain ⟨tb, lk, nf⟩ := eqOk_first ok.fac hm q2 I b2 ry (Same.refl _)
    obtain ⟨a, ox, od, rfl, J⟩ := b1.typeC I
    obtain ⟨b, oy, od', rfl, J'⟩ := b2.typeC I
    cases rx
    cases ry
    by_cases hab : a = b
    · subst hab
      exact SeqAt.EqAt.same (A := A) (s := s) (.ref a) X.prog X.w X.xe _ ⟨rfl, H, I, fun _ _ h => h⟩
    · refine GQ.eqBool_refG hab ?_
      obtain ⟨mm, hF⟩ := I.fr
      refine PySem.W.cmp_K (op := .Eq) sb.room.units0 hF I.ok.mod.kin J lk nf (by have := me.at_; rw [ok.fac.nEq] at this; exact this) me.fn ?_
      have cd : CallD T C X.K W σ f [.ins c ns xs, .ins c' ns' xs'] H H (fun v H' => v = .bl true ∧ Ext H H') := ⟨_, hc, rfl, fun v Hf' H' g sr _ => by
        cases (show Rep (T.gm X.K) Hf' v (.bl true) from sr)
        exact ⟨rfl, g.grow⟩⟩
      exact thn (run_callD (sb.mono (by omega)) ok.toCok0 mo I (.cons (show RelV (.ref a) (.ref a) from rfl) (.cons (show RelV (.ref b) (.ref b) from rfl) .nil)) (Same.refl _) (.cons r1 (.cons r2 .nil)) cd) fun w s' hw => by
        obtain ⟨z, H', I', rz, rfl, ex⟩ := id hw
        cases rz
        exact ⟨true, rfl, rfl, H', I', ex⟩
theorem eqT_seq {n : Nat} {xs ys : List D} (h : (xs.length == ys.length && (xs.zip ys).all fun p => eqT P C n p.1 p.2) = true) {vs us : List V} {H : Hp} (r1 : Reps (T.gm X.K) H vs xs) (r2 : Reps (T.gm X.K) H us ys) : Prs (DEq T P C X.K n) vs us H := by
  rw [Bool.and_eq_true] at h
  refine ⟨by rw [r1.length, r2.length]; exact eq_of_beq h.1, fun i x y h1 h2 => ?_⟩
  obtain ⟨d, e1, e2⟩ := r1.get h1
  obtain ⟨e, e3, e4⟩ := r2.get h2
  refine ⟨d, e, e2, e4, List.all_eq_true.mp h.2 (d, e) ?_⟩
  exact List.mem_of_getElem? (i := i) (by rw [List.getElem?_zip_eq_some]; exact ⟨e1, e3⟩)
theorem eqG_T (ok : Cok T P C L X W) (mo : MuOk P) : ∀ n, EqG X (L + n) (DEq T P C X.K n)
  | 0 => fun A pins s σ H x y u v sb I rx ry ⟨d, e, r1, r2, h⟩ => eqG_0 ok mo (n := 0) A pins s σ H x y u v sb I rx ry r1 r2 (by rw [eqT] at h <;> first | exact h | (intros; simp_all))
  | n + 1 => fun A pins s σ H x y u v sb I rx ry ⟨d, e, r1, r2, h⟩ => by
    have ih := eqG_T ok mo n
    have other : eq0 P C d e = true → wpAny (model X.prog X.w) A (PySem.eqBool u v) (fun r s' => r = true ∧ ∃ H', Inv X pins σ H' s' ∧ Ext H H') X.xe s := fun h => eqG_0 ok mo (n := n + 1) A pins s σ H x y u v sb I rx ry r1 r2 h
    cases d with
    | tup xs =>
      cases e with
      | tup ys =>
        rw [eqT] at h
        cases r1 with
        | @tup a vs _ s1 q1 =>
          cases r2 with
          | @tup b us _ s2 q2 => exact eqG_tup mon_DEq ih A pins s σ H _ _ u v sb I rx ry ⟨a, b, vs, us, rfl, rfl, s1, s2, eqT_seq h q1 q2⟩
      | _ => rw [eqT] at h <;> first | (cases h; done) | (intros; simp_all)
    | lst xs =>
      cases e with
      | lst ys =>
        rw [eqT] at h
        cases r1 with
        | @lst a vs _ s1 q1 =>
          cases r2 with
          | @lst b us _ s2 q2 => exact eqG_list mon_DEq ih A pins s σ H _ _ u v sb I rx ry ⟨a, b, vs, us, rfl, rfl, s1, s2, eqT_seq h q1 q2⟩
      | _ => rw [eqT] at h <;> first | (cases h; done) | (intros; simp_all)
    | _ => exact other (by rw [eqT] at h <;> first | exact h | (intros; simp_all))
/-- nothing handed on: flat data alone -/
theorem eqT_noC : ∀ (n m : Nat) (d e : D), n ≤ m → eqT P noC n d e = true → pl m d = true ∧ pl m e = true := by
  have base : ∀ (m : Nat) (d e : D), eq0 P noC d e = true → pl m d = true ∧ pl m e = true := fun m d e h => by
    rcases eq0_kind h with hd | ⟨c, ns, xs, rfl⟩
    · obtain ⟨he, _⟩ := eq0_flat h hd
      constructor
      · cases d <;> cases hd <;> cases m <;> rfl
      · cases e <;> cases he <;> cases m <;> rfl
    · obtain ⟨_, _, _, _, _, _, _, hc⟩ := eq0_ins h
      cases hc
  intro n
  induction n with
  | zero => intro m d e _ h; exact base m d e (by rw [eqT] at h <;> first | exact h | (intros; simp_all))
  | succ n ih =>
    intro m d e hm h
    cases m with
    | zero => omega
    | succ m =>
    have seq : ∀ {xs ys : List D}, (xs.length == ys.length && (xs.zip ys).all fun p => eqT P noC n p.1 p.2) = true → pls m xs = true ∧ pls m ys = true := fun {xs} => by
      induction xs with
      | nil =>
        intro ys h
        cases ys with
        | nil => exact ⟨rfl, rfl⟩
        | cons _ _ => cases h
      | cons x xs ihx =>
        intro ys h
        cases ys with
        | nil => cases h
        | cons y ys =>
          simp only [List.length_cons, List.zip_cons_cons, List.all_cons, Bool.and_eq_true, beq_iff_eq, Nat.add_right_cancel_iff] at h
          obtain ⟨h1, h2, h3⟩ := h
          obtain ⟨k1, k2⟩ := ihx (ys := ys) (by rw [Bool.and_eq_true, beq_iff_eq]; exact ⟨h1, h3⟩)
          obtain ⟨k3, k4⟩ := ih m x y (by omega) h2
          exact ⟨by rw [pls, k3, k1]; rfl, by rw [pls, k4, k2]; rfl⟩
    cases d with
    | tup xs =>
      cases e with
      | tup ys => rw [eqT] at h; exact seq h
      | _ => rw [eqT] at h <;> first | (cases h; done) | (intros; simp_all)
    | lst xs =>
      cases e with
      | lst ys => rw [eqT] at h; exact seq h
      | _ => rw [eqT] at h <;> first | (cases h; done) | (intros; simp_all)
    | _ => exact base _ _ _ (by rw [eqT] at h <;> first | exact h | (intros; simp_all))
/-- what is wanted of sequences that are equal -/
theorem eqT_top {C' : Orc} {o : Op} (hz : o ≠ .isin) (hz2 : o ≠ .notin) (c : ¬ (pl 6 d && pl 6 e) = true) (z : Frz (T.gm X.K) Hf1 o C C' [x, y] [d, e]) (h : eqT P C' 4 d e = true) : C' = C ∧ Rep (T.gm X.K) Hf1 x d ∧ Rep (T.gm X.K) Hf1 y e := by
  rcases z with e' | ⟨e', z⟩
  · rw [e'] at h
    obtain ⟨h1, h2⟩ := eqT_noC 4 6 d e (by omega) h
    exact absurd (by rw [h1, h2]; rfl) c
  · have rs := z.elim id fun w => w.1.elim (fun q => absurd q hz) fun q => absurd q hz2
    cases rs with
    | cons r1 r2 => cases r2 with
      | cons r2 r3 => exact ⟨e', r1, r2⟩
/-- what a thing is, by its kind -/
def KindAt (s : Shared) (u : Value) : D → Prop
  | .non => u = .none
  | .bl b => u = .bool b
  | .int i => ∃ t, u = .int i t
  | .str x => ∃ t, u = .str x t
  | .tup _ => ∃ l its, u = .ref l ∧ s.heap.IsTuple l its
  | .lst _ => ∃ l its, u = .ref l ∧ s.heap.IsList l its
  | _ => True
theorem RB.kind (I : Inv X pins σ H s) (e : Same Hf H) (r : RB (T.gm X.K) Hf H x d) (rx : RelV x v) : KindAt s v d := by
  cases d with
  | non => cases r.inv_non; cases rx; rfl
  | bl b => cases r.inv_bl; cases rx; rfl
  | int i => cases r.inv_int; exact rx
  | str z => cases r.inv_str; exact rx
  | tup xs =>
    obtain ⟨a, vs, rfl, h1, _⟩ := r.inv_tup
    cases rx
    obtain ⟨its, rv, ea, _⟩ := I.tuple (SqT.same e h1)
    exact ⟨_, _, rfl, ea⟩
  | lst xs =>
    obtain ⟨a, vs, rfl, h1, h2⟩ := r
    cases rx
    obtain ⟨_, its, k, rv, e1⟩ := I.hok _ _ h1
    exact ⟨_, _, rfl, _, e1, rfl, _, rfl⟩
  | frz xs => trivial
  | ins c ns xs => trivial
theorem kind_off (h : offD d e = true) (k1 : KindAt s v d) (k2 : KindAt s u e) (hu : X.A.units < cLine) : SeqAt.RcAt X.A s v u false ∧ SeqAt.RcNeAt X.A s v u true := by
  cases d <;> cases e <;> first | cases h | skip
  · subst k1; obtain ⟨l, its, rfl, q⟩ := k2; exact ⟨.none_tuple q hu, .none_tuple q hu⟩
  · subst k1; obtain ⟨l, its, rfl, q⟩ := k2; exact ⟨.none_list q hu, .none_list q hu⟩
  · subst k1; obtain ⟨l, its, rfl, q⟩ := k2; exact ⟨.bool_tuple _ q hu, .bool_tuple _ q hu⟩
  · subst k1; obtain ⟨l, its, rfl, q⟩ := k2; exact ⟨.bool_list _ q hu, .bool_list _ q hu⟩
  · obtain ⟨t, rfl⟩ := k1; obtain ⟨l, its, rfl, q⟩ := k2; exact ⟨.int_tuple _ _ q hu, .int_tuple _ _ q hu⟩
  · obtain ⟨t, rfl⟩ := k1; obtain ⟨l, its, rfl, q⟩ := k2; exact ⟨.int_list _ _ q hu, .int_list _ _ q hu⟩
  · obtain ⟨t, rfl⟩ := k1; obtain ⟨l, its, rfl, q⟩ := k2; exact ⟨.str_tuple _ _ q hu, .str_tuple _ _ q hu⟩
  · obtain ⟨t, rfl⟩ := k1; obtain ⟨l, its, rfl, q⟩ := k2; exact ⟨.str_list _ _ q hu, .str_list _ _ q hu⟩
  · obtain ⟨l, its, rfl, q⟩ := k1; subst k2; exact ⟨.tuple_none q hu, .tuple_none q hu⟩
  · obtain ⟨l, its, rfl, q⟩ := k1; subst k2; exact ⟨.tuple_bool _ q hu, .tuple_bool _ q hu⟩
  · obtain ⟨l, its, rfl, q⟩ := k1; obtain ⟨t, rfl⟩ := k2; exact ⟨.tuple_int _ _ q hu, .tuple_int _ _ q hu⟩
  · obtain ⟨l, its, rfl, q⟩ := k1; obtain ⟨t, rfl⟩ := k2; exact ⟨.tuple_str _ _ q hu, .tuple_str _ _ q hu⟩
  · obtain ⟨l, its, rfl, q⟩ := k1; obtain ⟨l2, its2, rfl, q2⟩ := k2; exact ⟨.tuple_list q q2 hu, .tuple_list q q2 hu⟩
  · obtain ⟨l, its, rfl, q⟩ := k1; subst k2; exact ⟨.list_none q hu, .list_none q hu⟩
  · obtain ⟨l, its, rfl, q⟩ := k1; subst k2; exact ⟨.list_bool _ q hu, .list_bool _ q hu⟩
  · obtain ⟨l, its, rfl, q⟩ := k1; obtain ⟨t, rfl⟩ := k2; exact ⟨.list_int _ _ q hu, .list_int _ _ q hu⟩
  · obtain ⟨l, its, rfl, q⟩ := k1; obtain ⟨t, rfl⟩ := k2; exact ⟨.list_str _ _ q hu, .list_str _ _ q hu⟩
  · obtain ⟨l, its, rfl, q⟩ := k1; obtain ⟨l2, its2, rfl, q2⟩ := k2; exact ⟨.list_tuple q q2 hu, .list_tuple q q2 hu⟩
theorem wp_eq (ok : Cok T P C L X W) (mo : MuOk P) (I : Inv X pins σ H s) (rx : RelV x v) (ry : RelV y u) (q : OpQ T P C X.K W σ .eq [x, y] H Q) : wpAny (model X.prog X.w) X.A (compareOp .Eq v u) (EP X pins σ Q) X.xe s := by
  obtain ⟨ρ1, Hf1, d, e, C', an, E, r1, r2, z, h, f⟩ := q.two
  have h' : boolA (eqD P C' d e) = some an := h
  unfold eqD at h'
  by_cases c : (pl 6 d && pl 6 e) = true
  · rw [if_pos c] at h'
    cases h'
    rw [Bool.and_eq_true] at c
    obtain ⟨as, ra⟩ := r1.reads I E.sub rfl c.1 rx
    obtain ⟨bs, rb⟩ := r2.reads I E.sub rfl c.2 ry
    have a1 := pl_plain _ _ c.1
    have a2 := pl_plain _ _ c.2
    exact SeqAt.eq_plain ra rb a1.1 a2.1 (by have := ok.units; have := Nat.min_le_left (pyD d).depth (pyD e).depth; omega) ⟨.bl _, H, I, rfl, f.val E (.bl _)⟩
  · rw [if_neg c] at h'
    by_cases of : offD d e = true
    · rw [if_pos of] at h'
      cases h'
      exact (kind_off of (r1.kind I E.sub rx) (r2.kind I E.sub ry) (by have := ok.units; omega)).1 X.prog X.w _ _ ⟨.bl _, H, I, rfl, f.val E (.bl _)⟩
    rw [if_neg of] at h'
    cases d with
    | ins cc ns xs =>
      by_cases q2 : eqOk P cc e = true
      · have h2 : boolA (if eqOk P cc e then match P.meth cc mEq with
          | some f => match C' f [.fr (.ins cc ns xs), .fr e] with
            | some (.ret (.fr (.bl b)) []) => some b
            | _ => none
          | none => none
        else none) = some an := h'
        rw [if_pos q2] at h2
        cases hm : P.meth cc mEq with
        | none => rw [hm] at h2; cases h2
        | some fi =>
          rw [hm] at h2
          have hr : ∃ bb, C' fi [.fr (.ins cc ns xs), .fr e] = some (.ret (.fr (.bl bb)) []) ∧ an = .ok (.fr (.bl bb)) := by
            dsimp only at h2
            split at h2
            · rename_i b hb
              cases h2
              exact ⟨b, hb, rfl⟩
            · cases h2
          obtain ⟨bb, hb, rfl⟩ := hr
          obtain ⟨rs, cd⟩ := eq_call ok (fun z => by cases z) (fun z => by cases z) E z hb (Q' := Q) fun H' g => by
            rcases g with g | ⟨Hf', g⟩
            · exact f _ _ _ g (.bl bb) fun _ z => by cases z
            · exact f _ _ _ g (.bl bb) fun _ z => by cases z
          obtain ⟨cl, me, hne, hob, hsub⟩ := ok.fac.eqs cc fi hm
          obtain ⟨tb, lk, nf⟩ := eqOk_first ok.fac hm q2 I r2 ry E.sub
          obtain ⟨a, ox, od, rfl, J⟩ := r1.typeC I
          cases rx
          obtain ⟨mm, hF⟩ := I.fr
          refine PySem.W.cmp_K (op := .Eq) (by have := ok.units; omega) hF I.ok.mod.kin J lk nf (by have := me.at_; rw [ok.fac.nEq] at this; exact this) me.fn ?_
          exact thn (run_callD ok.here ok.toCok0 mo I (.cons (show RelV (.ref a) (.ref a) from rfl) (.cons ry .nil)) E.sub rs cd) fun w s' hw => by
            obtain ⟨z, H', I', rz, qz⟩ := id hw
            exact cmpBack_of (RelV.ne_ni rz) hw
      · have h2 : boolA (if eqOk P cc e then match P.meth cc mEq with
          | some f => match C' f [.fr (.ins cc ns xs), .fr e] with
            | some (.ret (.fr (.bl b)) []) => some b
            | _ => none
          | none => none
        else none) = some an := h'
        rw [if_neg q2] at h2; cases h2
    | tup xs =>
      have h2 : boolA (if eqT P C' 4 (.tup xs) e then some true else none) = some an := h'
      by_cases ht : eqT P C' 4 (.tup xs) e = true
      · rw [if_pos ht] at h2
        cases h2
        obtain ⟨rfl, q1, q2⟩ := eqT_top (fun z => by cases z) (fun z => by cases z) c z ht
        cases e with
        | tup ys =>
          rw [eqT] at ht
          cases q1 with
          | @tup a vs _ s1 q1 =>
            cases q2 with
            | @tup b us _ s2 q2 =>
              refine wpAny_mono (rcG_tup mon_DEq (eqG_T ok mo 3) X.A pins s σ H _ _ v u ⟨ok.room.mono (by omega), rfl⟩ I rx ry ⟨a, b, vs, us, rfl, rfl, SqT.same E.sub s1, SqT.same E.sub s2, eqT_seq ht (q1.mono E.sub) (q2.mono E.sub)⟩) (fun r s' hh => ?_) fun _ _ x => x
              obtain ⟨hr', H', I', ex⟩ := hh
              subst hr'
              exact ⟨.bl true, H', I', rfl, f _ Hf1 H' ⟨E.sub.trans ex, Same.refl _, ex, fun _ h => .inl h⟩ (.bl true) fun _ z => z.fr.elim⟩
        | _ => rw [eqT] at ht <;> first | (cases ht; done) | (intros; simp_all)
      · rw [if_neg ht] at h2; cases h2
    | lst xs =>
      have h2 : boolA (if eqT P C' 4 (.lst xs) e then some true else none) = some an := h'
      by_cases ht : eqT P C' 4 (.lst xs) e = true
      · rw [if_pos ht] at h2
        cases h2
        obtain ⟨rfl, q1, q2⟩ := eqT_top (fun z => by cases z) (fun z => by cases z) c z ht
        cases e with
        | lst ys =>
          rw [eqT] at ht
          cases q1 with
          | @lst a vs _ s1 q1 =>
            cases q2 with
            | @lst b us _ s2 q2 =>
              refine wpAny_mono (rcG_list mon_DEq (eqG_T ok mo 3) X.A pins s σ H _ _ v u ⟨ok.room.mono (by omega), rfl⟩ I rx ry ⟨a, b, vs, us, rfl, rfl, E.sub _ _ s1, E.sub _ _ s2, eqT_seq ht (q1.mono E.sub) (q2.mono E.sub)⟩) (fun r s' hh => ?_) fun _ _ x => x
              obtain ⟨hr', H', I', ex⟩ := hh
              subst hr'
              exact ⟨.bl true, H', I', rfl, f _ Hf1 H' ⟨E.sub.trans ex, Same.refl _, ex, fun _ h => .inl h⟩ (.bl true) fun _ z => z.fr.elim⟩
        | _ => rw [eqT] at ht <;> first | (cases ht; done) | (intros; simp_all)
      · rw [if_neg ht] at h2; cases h2
    | _ => cases h'
end
section
open PySem.W Builtin
theorem one_bind (self : Value) : bindSpecial (.builtin "object.__ne__") self = pure (.builtin "object.__ne__", [self]) :=
  (Slot.of (T := "object") (name := "__ne__") (owner := "object") (n := "__ne__") (by rw [typeLookup_type, builtinLookup_eq_fast]; kernel_rfl) (by decide +kernel) (by decide +kernel) (by decide +kernel)
    (.inl (by decide +kernel)) (by rw [isSubtype_type]; kernel_rfl)).bind self
theorem one_plain : plainId "object.__ne__" = true := by decide +kernel
variable {prog : Program} {w : World} {A : Around} {E : Value → Shared → Prop} {s : Shared} {K : Frag} {x C L f : Addr} {h₀ : Heap} {m : Str → Option Value} {ox : Obj} {od : Option Obj} {name : Str} {b tb : Value}
theorem ifBound_B {M : Model} {args : List Value} {id : String} {Q : Option Value → Shared → Prop} (X : K.In s.heap) (I : InstAt s.heap x ox C od) (hs : findIn K (.ref C) name = some (some (.builtin id)))
    (hb : ∀ self, bindSpecial (.builtin id) self = pure (.builtin id, [self])) (h : wpAny M A (call (.builtin id) (.ref x :: args)) (fun v => Q (some v)) E s) : wpAny M A (callSpecialIfBound? (.ref x) name args) Q E s := by
  simp only [callSpecialIfBound?, bindSpecialIfBound?]
  refine wpAny_holding (wpAny_bind (wpAny_bind (wpAny_bind (I.type.here ((looks_findIn X hs).here ?_)))))
  refine wpAny_bind (wpAny_askSetting (wpAny_ite ?_))
  have fin : wpAny M A (call (.builtin id) ([.ref x] ++ args) >>= fun v => pure (some v)) Q E s := wpAny_bind (wpAny_mono h (fun v s' h' => wpAny_pure h') fun _ _ h' => h')
  split
  · exact wpAny_bind ((Looks.of_pure (hb _)).here (wpAny_pure (by exact fin)))
  · exact wpAny_tryCatch (wpAny_bind ((Looks.of_pure (hb _)).here (wpAny_pure (by exact fin))))
theorem ne_K {Q : Value → Shared → Prop} (hu : A.units < cLine) (hu1 : A.in1.units < cLine) (X : K.In s.heap) (I : InstAt s.heap x ox C od) (hb : Looks (model prog w) s.heap (typeOf b) tb) (hn : notFirst K C tb = true)
    (hne : findIn K (.ref C) "__ne__" = some (some (.builtin "object.__ne__"))) (hm : mroIn K C (.type "object") = some true) (hs : findIn K (.ref C) "__eq__" = some (some (.ref f))) (hf : isFn K (.ref f) = true)
    (h : wpAny (model prog w) A.in1 (call (.ref f) [.ref x, b]) (fun v s' => ∃ r, v = .bool r ∧ Q (.bool (!r)) s') E s) : wpAny (model prog w) A (richCompare .NotEq (.ref x) b) Q E s := by
  have called : wpAny (model prog w) A (call (.builtin "object.__ne__") [.ref x, b]) (fun r s' => ∃ v, r = .bool v ∧ Q (.bool v) s') E s := by
    refine wpAny_call (codeAny_call_builtin one_plain PySem.F.cmpEntry_ne (check_slot (i := "object.__ne__") (owner := "object") (n := "__ne__") (by decide +kernel) (by decide +kernel) (I.type.andThen (looks_mroIn X hm)) (PySem.F.cmpArgs_ne _ _) ?_))
    unfold Builtin.«object.__ne__»
    refine wpAny_bind (m := slotArgs "__ne__" 1 _) (wpAny_pure ?_)
    refine wpAny_bind (m := cRoomFor _ _) (wpAny_cRoomFor hu1 ?_)
    refine wpAny_bind (m := callSpecialIfBound? (.ref x) (Str.ofString "__eq__") _) (ifBound_K X I hs hf (wpAny_mono h (fun r s' hq => ?_) fun _ _ y => y))
    obtain ⟨v, rfl, q⟩ := hq
    exact wpAny_bind (m := truthy (.bool _)) (wpAny_truthy_bool (wpAny_pure ⟨_, rfl, q⟩))
  have one : wpAny (model prog w) A (tryCompare (.ref x) (cmpInfo .NotEq).2.1 b) (fun r s' => ∃ v, r = some v ∧ Q v s') E s := by
    unfold tryCompare
    refine wpAny_bind (ifBound_B X I hne one_bind (wpAny_mono called (fun v s' hv => ?_) fun _ _ e => e))
    obtain ⟨r, rfl, q⟩ := hv
    exact wpAny_pure ⟨_, rfl, q⟩
  unfold richCompare
  simp only [oneThing_ref]
  refine wpAny_holding (wpAny_bind (wpAny_cRoomFor hu ?_))
  refine wpAny_bind (I.type.here (wpAny_bind (hb.here ?_)))
  split
  · rename_i q
    have e : subIn K tb (.ref C) = some false := by
      rcases Bool.or_eq_true_iff.mp hn with e | e
      · rw [beq_iff_eq.mp e] at q; simp at q
      · exact beq_iff_eq.mp e
    refine wpAny_bind ((looks_subIn X e).here ?_)
    simp only [Bool.false_eq_true, if_false]
    refine wpAny_bind (wpAny_mono one (fun r s' z => ?_) fun _ _ e => e)
    obtain ⟨v, rfl, hq⟩ := z
    exact wpAny_pure hq
  · refine wpAny_bind (wpAny_pure ?_)
    simp only [Bool.false_eq_true, if_false]
    refine wpAny_bind (wpAny_mono one (fun r s' z => ?_) fun _ _ e => e)
    obtain ⟨v, rfl, hq⟩ := z
    exact wpAny_pure hq
end

section
variable {T : Tx} {P : Prog} {C : Orc} {L : Nat} {X : Cx} {W : WX} {pins : List (Addr × Obj)} {σ : St} {H Hf : Hp} {s : Shared}
variable {x y : V} {v u : Value} {Q : VK} {ρ1 : EnvD} {Hf1 : Hp} {an : An} {d e : D} {b : Bool}
theorem Cok.units1 (ok : Cok T P C L X W) : X.A.in1.units < cLine := by
  have h := ok.units
  show X.A.units + 1 < cLine
  omega
theorem Cok.here1 (ok : Cok T P C L X W) : Sub X L X.A.in1 := ⟨(ok.room.mono (by omega : L + 1 ≤ L + 7)).in1, rfl⟩
theorem wp_ne (ok : Cok T P C L X W) (mo : MuOk P) (I : Inv X pins σ H s) (rx : RelV x v) (ry : RelV y u) (q : OpQ T P C X.K W σ .ne [x, y] H Q) : wpAny (model X.prog X.w) X.A (compareOp .NotEq v u) (EP X pins σ Q) X.xe s := by
  obtain ⟨ρ1, Hf1, d, e, C', an, E, r1, r2, z, h, f⟩ := q.two
  have h' : boolA ((eqD P C' d e).map not) = some an := h
  unfold eqD at h'
  by_cases c : (pl 6 d && pl 6 e) = true
  · rw [if_pos c] at h'
    cases h'
    rw [Bool.and_eq_true] at c
    obtain ⟨as, ra⟩ := r1.reads I E.sub rfl c.1 rx
    obtain ⟨bs, rb⟩ := r2.reads I E.sub rfl c.2 ry
    have a1 := pl_plain _ _ c.1
    have a2 := pl_plain _ _ c.2
    exact SeqAt.ne_plain ra rb a1.1 a2.1 (by have := ok.units; have := Nat.min_le_left (pyD d).depth (pyD e).depth; omega) ⟨.bl _, H, I, rfl, f.val E (.bl _)⟩
  · rw [if_neg c] at h'
    by_cases of : offD d e = true
    · rw [if_pos of] at h'
      cases h'
      exact (kind_off of (r1.kind I E.sub rx) (r2.kind I E.sub ry) (by have := ok.units; omega)).2 X.prog X.w _ _ ⟨.bl _, H, I, rfl, f.val E (.bl _)⟩
    rw [if_neg of] at h'
    cases d with
    | ins cc ns xs =>
      have h2 : boolA ((if eqOk P cc e then match P.meth cc mEq with
          | some f => match C' f [.fr (.ins cc ns xs), .fr e] with
            | some (.ret (.fr (.bl b)) []) => some b
            | _ => none
          | none => none
        else none).map not) = some an := h'
      by_cases q2 : eqOk P cc e = true
      · rw [if_pos q2] at h2
        cases hm : P.meth cc mEq with
        | none => rw [hm] at h2; cases h2
        | some fi =>
          rw [hm] at h2
          have hr : ∃ bb, C' fi [.fr (.ins cc ns xs), .fr e] = some (.ret (.fr (.bl bb)) []) ∧ an = .ok (.fr (.bl (!bb))) := by
            dsimp only at h2
            split at h2
            · rename_i b hb
              cases h2
              exact ⟨b, hb, rfl⟩
            · cases h2
          obtain ⟨bb, hb, rfl⟩ := hr
          obtain ⟨rs, cd⟩ := eq_call ok (fun z => by cases z) (fun z => by cases z) E z hb (Q' := fun v H' => v = .bl bb ∧ Q (.bl (!bb)) H') fun H' g => by
            rcases g with g | ⟨Hf', g⟩
            · exact ⟨rfl, f _ _ _ g (.bl _) fun _ z => by cases z⟩
            · exact ⟨rfl, f _ _ _ g (.bl _) fun _ z => by cases z⟩
          obtain ⟨cl, me, hne, hob, hsub⟩ := ok.fac.eqs cc fi hm
          obtain ⟨tb, lk, nf⟩ := eqOk_first ok.fac hm q2 I r2 ry E.sub
          obtain ⟨a, ox, od, rfl, J⟩ := r1.typeC I
          cases rx
          refine ne_K (by have := ok.units; omega) ok.units1 I.kIn J lk nf hne hob (by have := me.at_; rw [ok.fac.nEq] at this; exact this) me.fn ?_
          exact thn (run_callD ok.here1 ok.toCok0 mo I (.cons (show RelV (.ref a) (.ref a) from rfl) (.cons ry .nil)) E.sub rs cd) fun w s' hw => by
            obtain ⟨z, H', I', rz, rfl, qz⟩ := id hw
            cases rz
            exact ⟨bb, rfl, .bl _, H', I', rfl, qz⟩
      · rw [if_neg q2] at h2; cases h2
    | tup xs =>
      have h2 : boolA ((if eqT P C' 4 (.tup xs) e then some true else none).map not) = some an := h'
      by_cases ht : eqT P C' 4 (.tup xs) e = true
      · rw [if_pos ht] at h2
        cases h2
        obtain ⟨rfl, q1, q2⟩ := eqT_top (fun z => by cases z) (fun z => by cases z) c z ht
        cases e with
        | tup ys =>
          rw [eqT] at ht
          cases q1 with
          | @tup a vs _ s1 q1 =>
            cases q2 with
            | @tup b us _ s2 q2 =>
              cases rx
              cases ry
              have p := eqT_seq (X := X) ht (q1.mono E.sub) (q2.mono E.sub)
              obtain ⟨its, r, ea, _⟩ := I.tuple (SqT.same E.sub s1)
              obtain ⟨its2, r2, ea2, _⟩ := I.tuple (SqT.same E.sub s2)
              have hsz : its.toArray.size = its2.toArray.size := by rw [List.size_toArray, List.size_toArray, ← r.length, ← r2.length]; exact p.1
              have sb : Sub X (L + 3 + 1) X.A := ⟨ok.room.mono (by omega), rfl⟩
              refine EvNe.rc_tup hsz sb.room.units0 ea ea2 (J := fun _ s' => LoopI X pins σ H s') (fun i h1 h2 s' q => turnG mon_DEq (eqG_T ok mo 3) sb p r r2 i h1 h2 s' q) (fun t ⟨H', I', ex⟩ => ?_) ⟨H, I, fun _ _ h => h⟩
              exact ⟨.bl false, H', I', rfl, f _ Hf1 H' ⟨E.sub.trans ex, Same.refl _, ex, fun _ h => .inl h⟩ (.bl false) fun _ z => z.fr.elim⟩
        | _ => rw [eqT] at ht <;> first | (cases ht; done) | (intros; simp_all)
      · rw [if_neg ht] at h2; cases h2
    | lst xs =>
      have h2 : boolA ((if eqT P C' 4 (.lst xs) e then some true else none).map not) = some an := h'
      by_cases ht : eqT P C' 4 (.lst xs) e = true
      · rw [if_pos ht] at h2
        cases h2
        obtain ⟨rfl, q1, q2⟩ := eqT_top (fun z => by cases z) (fun z => by cases z) c z ht
        cases e with
        | lst ys =>
          rw [eqT] at ht
          cases q1 with
          | @lst a vs _ s1 q1 =>
            cases q2 with
            | @lst b us _ s2 q2 =>
              cases rx
              cases ry
              have p := eqT_seq (X := X) ht (q1.mono E.sub) (q2.mono E.sub)
              have sb : Sub X (L + 3 + 1) X.A := ⟨ok.room.mono (by omega), rfl⟩
              refine EvNe.rc_list (N := vs.length) sb.room.units0 (J := fun _ s' => LoopI X pins σ H s') (fun i s' q => ?_) (fun t ⟨H', I', ex⟩ => ?_) ⟨H, I, fun _ _ h => h⟩
              · obtain ⟨H1, I1, e1⟩ := id q
                obtain ⟨zz, its, k, r, ea⟩ := I1.hok a _ (e1 _ _ (E.sub _ _ s1))
                obtain ⟨zz2, its2, k2, r2, ea2⟩ := I1.hok b _ (e1 _ _ (E.sub _ _ s2))
                refine ⟨its.toArray, its2.toArray, k, k2, ea, ea2, by rw [List.size_toArray, ← r.length], by rw [List.size_toArray, ← r2.length, ← p.1], fun h1 h2 => ?_⟩
                exact turnG mon_DEq (eqG_T ok mo 3) sb p r r2 i h1 h2 s' q
              · exact ⟨.bl false, H', I', rfl, f _ Hf1 H' ⟨E.sub.trans ex, Same.refl _, ex, fun _ h => .inl h⟩ (.bl false) fun _ z => z.fr.elim⟩
        | _ => rw [eqT] at ht <;> first | (cases ht; done) | (intros; simp_all)
      · rw [if_neg ht] at h2; cases h2
    | _ => cases h'
theorem inD_some {d e : D} {b : Bool} (h : inD d e = some b) : ∃ ys, (e = .lst ys ∨ e = .tup ys) ∧ pl 5 d = true ∧ pls 5 ys = true ∧ b = (pyDs ys).any fun y => PyData.eqv y (pyD d) := by
  have go : ∀ ys, (if pl 5 d && pls 5 ys then some ((pyDs ys).any fun y => PyData.eqv y (pyD d)) else none) = some b → pl 5 d = true ∧ pls 5 ys = true ∧ b = (pyDs ys).any fun y => PyData.eqv y (pyD d) := fun ys q => by
    by_cases c : (pl 5 d && pls 5 ys) = true
    · rw [if_pos c] at q
      cases q
      rw [Bool.and_eq_true] at c
      exact ⟨c.1, c.2, rfl⟩
    · rw [if_neg c] at q; cases q
  cases e with
  | lst ys => exact ⟨ys, .inl rfl, go ys h⟩
  | tup ys => exact ⟨ys, .inr rfl, go ys h⟩
  | _ => cases h
theorem wp_isin (ok : Cok T P C L X W) (I : Inv X pins σ H s) (rx : RelV x v) (ry : RelV y u) (q : OpQ T P C X.K W σ .isin [x, y] H Q) : wpAny (model X.prog X.w) X.A (compareOp .In v u) (EP X pins σ Q) X.xe s := by
  obtain ⟨ρ1, Hf1, d, e, C', an, E, r1, r2, z, h, f⟩ := q.two
  have h' : boolA (inD d e) = some an := h
  cases hb : inD d e with
  | none => rw [hb] at h'; cases h'
  | some b =>
    rw [hb] at h'
    cases h'
    obtain ⟨ys, he, p1, p2, rfl⟩ := inD_some hb
    have p3 : pl 6 e = true := by rcases he with rfl | rfl <;> exact p2
    obtain ⟨as, ra⟩ := r1.reads I E.sub rfl p1 rx
    obtain ⟨bs, rb⟩ := r2.reads I E.sub rfl p3 ry
    have a1 := pl_plain _ _ p1
    have a2 := pls_plain _ _ p2
    have room : X.A.units + 1 + min (PyData.depthAll (pyDs ys)) (pyD d).depth < cLine := by
      have := ok.units
      have := Nat.min_le_right (PyData.depthAll (pyDs ys)) (pyD d).depth
      omega
    rcases he with rfl | rfl
    · exact SeqAt.in_list_data rb ra a2.1 a1.1 room ⟨.bl _, H, I, rfl, f.val E (.bl _)⟩
    · exact SeqAt.in_tuple_data rb ra a2.1 a1.1 room ⟨.bl _, H, I, rfl, f.val E (.bl _)⟩
theorem wp_notin (ok : Cok T P C L X W) (I : Inv X pins σ H s) (rx : RelV x v) (ry : RelV y u) (q : OpQ T P C X.K W σ .notin [x, y] H Q) : wpAny (model X.prog X.w) X.A (compareOp .NotIn v u) (EP X pins σ Q) X.xe s := by
  obtain ⟨ρ1, Hf1, d, e, C', an, E, r1, r2, z, h, f⟩ := q.two
  have h' : boolA ((inD d e).map not) = some an := h
  cases hb : inD d e with
  | none => rw [hb] at h'; cases h'
  | some b =>
    rw [hb] at h'
    cases h'
    obtain ⟨ys, he, p1, p2, rfl⟩ := inD_some hb
    have p3 : pl 6 e = true := by rcases he with rfl | rfl <;> exact p2
    obtain ⟨as, ra⟩ := r1.reads I E.sub rfl p1 rx
    obtain ⟨bs, rb⟩ := r2.reads I E.sub rfl p3 ry
    have a1 := pl_plain _ _ p1
    have a2 := pls_plain _ _ p2
    have room : X.A.units + 1 + min (PyData.depthAll (pyDs ys)) (pyD d).depth < cLine := by
      have := ok.units
      have := Nat.min_le_right (PyData.depthAll (pyDs ys)) (pyD d).depth
      omega
    rcases he with rfl | rfl
    · exact SeqAt.notIn_list_data rb ra a2.1 a1.1 room ⟨.bl _, H, I, rfl, f.val E (.bl _)⟩
    · exact SeqAt.notIn_tuple_data rb ra a2.1 a1.1 room ⟨.bl _, H, I, rfl, f.val E (.bl _)⟩
end
end Ev
/-! Ev: sorted, max, min of data. -/
namespace Ev
open PySem PySem.Spec L2
section
variable {T : Tx} {P : Prog} {C : Orc} {L : Nat} {X : Cx} {W : WX} {pins : List (Addr × Obj)} {σ : St} {H Hf : Hp} {s : Shared}
variable {x y : V} {v u : Value} {Q : VK} {ρ1 : EnvD} {Hf1 : Hp} {an : An} {d e : D} {b : Bool}
theorem intsOf_eq : ∀ {xs : List D} {is : List Int}, intsOf xs = some is → xs = is.map D.int
  | [], is, h => by cases h; rfl
  | .int i :: r, is, h => by
    have h' : (intsOf r).map (i :: ·) = some is := h
    cases e : intsOf r with
    | none => rw [e] at h'; cases h'
    | some js => rw [e] at h'; cases h'; rw [intsOf_eq e]; rfl
  | .non :: _, _, h => by cases h
  | .bl _ :: _, _, h => by cases h
  | .str _ :: _, _, h => by cases h
  | .tup _ :: _, _, h => by cases h
  | .lst _ :: _, _, h => by cases h
  | .frz _ :: _, _, h => by cases h
  | .ins _ _ _ :: _, _, h => by cases h
theorem pyDs_ints : ∀ is : List Int, pyDs (is.map D.int) = is.map PyData.int
  | [] => rfl
  | i :: is => congrArg (PyData.int i :: ·) (pyDs_ints is)
theorem pls_ints {n : Nat} : ∀ is : List Int, pls n (is.map D.int) = true
  | [] => by rw [List.map_nil, pls]
  | i :: is => by
    show pls n (.int i :: is.map D.int) = true
    rw [pls, pls_ints is]
    cases n <;> rfl
theorem pyDs_map : ∀ xs : List D, pyDs xs = xs.map pyD
  | [] => rfl
  | x :: xs => congrArg (pyD x :: ·) (pyDs_map xs)
theorem alike_ints {x : Int} {xs : List Int} : PySem.W.AlikeAll ((x :: xs).map PyData.int) := by
  have key : ∀ d ∈ (x :: xs).map PyData.int, ∃ i, d = .int i := fun d h => by
    obtain ⟨i, _, e⟩ := List.mem_map.mp h
    exact ⟨i, e.symm⟩
  refine ⟨fun a ha b hb => ?_, fun a ha => ?_⟩
  · obtain ⟨i, rfl⟩ := key a ha
    obtain ⟨j, rfl⟩ := key b hb
    rfl
  · obtain ⟨i, rfl⟩ := key a ha
    exact fun z => by cases z
theorem seqD_cases {xs : List D} (h : seqD d = some xs) : d = .lst xs ∨ d = .tup xs := by
  cases d <;> cases h <;> first | exact .inl rfl | exact .inr rfl
theorem bestD_get {f : List Int → Option Int} (h : bestD f d = some an) : ∃ is i, (d = .lst (is.map .int) ∨ d = .tup (is.map .int)) ∧ f is = some i ∧ an = .ok (.fr (.int i)) := by
  unfold bestD at h
  split at h
  · rename_i xs hx
    split at h
    · split at h
      · rename_i is hi
        split at h
        · rename_i i hf
          cases h
          have := intsOf_eq hi
          subst this
          exact ⟨is, i, seqD_cases hx, hf, rfl⟩
        · cases h
      · cases h
    · cases h
  · cases h
theorem minD_ints (n : Int) : ∀ ns : List Int, PySem.W.minD (.int n) (ns.map .int) = .int (ns.foldl min n) := by
  first
    | exact PySem.W.minD_ints n
/-- what a built-in finds among numbers -/
theorem wp_best (ok : Cok T P C L X W) {o : Op} {nm : String} {g : List Int → Option Int} (ho : ∀ d C', opS P C' o [d] = bestD g d)
    (hl : ∀ (s : Shared) (a : Addr) (its : Array Value) (is : List Int) (i : Int) (as : List Addr) (Q : Value → Shared → Prop), X.A.handled = none → (s.heap.IsList a its ∨ s.heap.IsTuple a its) → ReadsAll s.heap its.toList (is.map .int) as → g is = some i → X.A.units + 1 + PyData.depthAll (is.map .int) < cLine →
      (∀ v h' tk bs, Reads h' v (.int i) bs → (∀ b o, s.heap.get? b = some o → h'.get? b = some o) → Q v { s with heap := h', toks := tk }) → wpAny (model X.prog X.w) X.A (call (.builtin nm) [.ref a]) Q X.xe s)
    (I : Inv X pins σ H s) (rx : RelV x v) (q : OpQ T P C X.K W σ o [x] H Q) : wpAny (model X.prog X.w) X.A (call (.builtin nm) [v]) (EP X pins σ Q) X.xe s := by
  obtain ⟨ρ1, Hf1, d, C', an, E, r1, z, h, f⟩ := q.one
  rw [ho] at h
  obtain ⟨is, i, hd, hg, rfl⟩ := bestD_get h
  have room : X.A.units + 1 + PyData.depthAll (is.map .int) < cLine := by
    have h1 := (pl_plain 0 (.int 0) rfl)
    have h2 := (pls_plain 0 (is.map D.int) (pls_ints is)).2
    rw [pyDs_ints] at h2
    have := ok.units
    omega
  have fin : ∀ v h' tk bs, Reads h' v (.int i) bs → (∀ b o, s.heap.get? b = some o → h'.get? b = some o) → EP X pins σ Q v { s with heap := h', toks := tk } := fun v h' tk bs r k => by
    cases r
    exact ⟨.int i, H, I.kept k, ⟨_, rfl⟩, f.val E (.int i)⟩
  rcases hd with rfl | rfl
  · obtain ⟨a, vs, rfl, h1, rs⟩ := r1
    cases rx
    obtain ⟨its, rv, pl, hz⟩ := I.list (SqL.of h1)
    obtain ⟨as, ra⟩ := Reps.reads I E.sub rfl (n := 0) rs (pls_ints is) rv
    rw [pyDs_ints] at ra
    exact hl s a its.toArray is i as _ (I.ok.hd ok.calm) (.inl pl.isList) (by simpa using ra) hg room fin
  · obtain ⟨a, vs, rfl, h1, rs⟩ := r1.inv_tup
    cases rx
    obtain ⟨its, rv, pl, hz⟩ := I.tuple (SqT.same E.sub h1)
    obtain ⟨as, ra⟩ := Reps.reads I E.sub rfl (n := 0) rs (pls_ints is) rv
    rw [pyDs_ints] at ra
    exact hl s a its.toArray is i as _ (I.ok.hd ok.calm) (.inr pl) (by simpa using ra) hg room fin
theorem wp_max1 (ok : Cok T P C L X W) (I : Inv X pins σ H s) (rx : RelV x v) (q : OpQ T P C X.K W σ .max1 [x] H Q) : wpAny (model X.prog X.w) X.A (call (.builtin "max") [v]) (EP X pins σ Q) X.xe s :=
  wp_best ok (g := maxI) (fun _ _ => rfl) (fun s a its is i as Q hh hs ra hg hu fin => by
    cases is with
    | nil => cases hg
    | cons n ns =>
      cases hg
      rcases hs with hs | hs
      · exact PySem.W.max_list_data hh hs ra alike_ints hu fun j v h' tk bs _ r k => fin v h' tk bs (by rw [PySem.W.maxD_ints] at r; exact r) k
      · exact PySem.W.max_tuple_data hh hs ra alike_ints hu fun j v h' tk bs _ r k => fin v h' tk bs (by rw [PySem.W.maxD_ints] at r; exact r) k) I rx q
theorem wp_min1 (ok : Cok T P C L X W) (I : Inv X pins σ H s) (rx : RelV x v) (q : OpQ T P C X.K W σ .min1 [x] H Q) : wpAny (model X.prog X.w) X.A (call (.builtin "min") [v]) (EP X pins σ Q) X.xe s :=
  wp_best ok (g := minI) (fun _ _ => rfl) (fun s a its is i as Q hh hs ra hg hu fin => by
    cases is with
    | nil => cases hg
    | cons n ns =>
      cases hg
      rcases hs with hs | hs
      · exact PySem.W.min_list_data hh hs ra alike_ints hu fun j v h' tk bs _ r k => fin v h' tk bs (by rw [minD_ints] at r; exact r) k
      · exact PySem.W.min_tuple_data hh hs ra alike_ints hu fun j v h' tk bs _ r k => fin v h' tk bs (by rw [minD_ints] at r; exact r) k) I rx q
/-! ### sorted -/
theorem each_of {us : List Value} : ∀ {vs : List V} {ds : List D}, Vals vs us → Reps (T.gm X.K) Hf1 vs ds → PySem.W.EachIs (fun u d => ∃ w, RelV w u ∧ Rep (T.gm X.K) Hf1 w d) us ds := fun {vs} => by
  induction vs generalizing us with
  | nil => intro ds r q; cases r; cases q; exact .nil
  | cons v vs ih =>
    intro ds r q
    cases r with
    | cons a b =>
      cases q with
      | cons c d => exact .cons ⟨v, a, c⟩ (ih b d)
theorem of_each : ∀ {us : List Value} {ds : List D}, PySem.W.EachIs (fun u d => ∃ w, RelV w u ∧ Rep (T.gm X.K) Hf1 w d) us ds → ∃ vs, Vals vs us ∧ Reps (T.gm X.K) Hf1 vs ds
  | _, _, .nil => ⟨[], .nil, .nil⟩
  | _, _, .cons ⟨w, h1, h2⟩ r => by
    obtain ⟨vs, k1, k2⟩ := of_each r
    exact ⟨w :: vs, .cons h1 k1, .cons h2 k2⟩
theorem each_reads {h : Heap} : ∀ {us : List Value} {ds : List D} {as : List Addr}, ReadsAll h us (pyDs ds) as → PySem.W.EachIs (fun u d => ∃ as, Reads h u (pyD d) as) us ds
  | _, [], _, r => by cases r; exact .nil
  | _, d :: ds, _, r => by
    cases r with
    | cons h1 h2 => exact .cons ⟨_, h1⟩ (each_reads h2)
theorem depth_le {n : Nat} : ∀ {xs : List D}, pls n xs = true → ∀ d ∈ xs, (pyD d).depth ≤ n
  | [], _, d, h => by cases h
  | x :: xs, hp, d, h => by
    rw [pls, Bool.and_eq_true] at hp
    rcases List.mem_cons.mp h with rfl | h
    · exact (pl_plain n _ hp.1).2
    · exact depth_le hp.2 d h
theorem wp_sorted (ok : Cok T P C L X W) (I : Inv X pins σ H s) (rx : RelV x v) (q : OpQ T P C X.K W σ .sorted [x] H Q) : wpAny (model X.prog X.w) X.A (call (.builtin "sorted") [v]) (EP X pins σ Q) X.xe s := by
  obtain ⟨ρ1, Hf1, d, C', an, E, r1, z, h, f⟩ := q.one
  have h' : sortD d = some an := h
  unfold sortD at h'
  split at h'
  · rename_i xs
    by_cases c : sortOk xs = true
    · rw [if_pos c] at h'
      cases h'
      unfold sortOk at c
      simp only [Bool.and_eq_true, decide_eq_true_eq, Bool.or_eq_true] at c
      obtain ⟨c1, c2, c3, c4⟩ := c
      obtain ⟨a, vs, rfl, h1, rs⟩ := r1
      cases rx
      obtain ⟨its, rv, pl, hz⟩ := I.list (SqL.of h1)
      obtain ⟨as, ra⟩ := Reps.reads I E.sub rfl rs c1 rv
      refine PySem.W.sorted_data (enc := pyD) (R := fun u d => ∃ w, RelV w u ∧ Rep (T.gm X.K) Hf1 w d) (bs := xs) pl.isList (each_of rv rs) (each_reads ra) ?_ ?_ (most_le c4) (fun d hd => ?_) fun out hl he => ?_
      · intro p hp p2 hp2
        obtain ⟨d, hd, rfl⟩ := List.mem_map.mp hp
        obtain ⟨d2, hd2, rfl⟩ := List.mem_map.mp hp2
        exact List.all_eq_true.mp (List.all_eq_true.mp c2 d hd) d2 hd2
      · rcases c3 with c3 | c3
        · refine .inl fun p hp => ?_
          obtain ⟨d, hd, rfl⟩ := List.mem_map.mp hp
          have := List.all_eq_true.mp c3 d hd
          cases d with
          | tup ys =>
            cases ys with
            | nil => cases this
            | cons y ys => exact ⟨pyD y, pyDs ys, rfl⟩
          | _ => cases this
        · refine .inr fun p hp => ?_
          obtain ⟨d, hd, rfl⟩ := List.mem_map.mp hp
          have := List.all_eq_true.mp c3 d hd
          cases d <;> first | (cases this; done) | exact ⟨(fun z => by cases z), (fun xs z => by cases z)⟩
      · have := depth_le c1 d hd
        have := ok.units
        omega
      · obtain ⟨ws, k1, k2⟩ := of_each he
        obtain ⟨ep, he'⟩ := PyProof.Rows.sortedAll_at s.heap its out.toArray
        have hlen : ws.length ≤ sizeLine := by rw [k1.length, hl]; exact most_le c4
        have fresh := I.hok.fresh (Nat.le_succ s.heap.objs.size)
        exact ⟨.ref _, upd H (s.heap.objs.size + 1) (.lst ws), I.laid (t' := s.toks) (fun _ _ => PyProof.Rows.sortedAll_old) (Nat.le_succ _) ⟨hlen, out, ep, k1, he'⟩, rfl, f.newL E k2 fresh⟩
    · rw [if_neg c] at h'; cases h'
  · cases h'
end
end Ev
/-! Ev 8: tests, and, or, not, comparisons, the conditional. -/
namespace Ev
open PySem PySem.Spec L2

section
variable {T : Tx} {K : PySem.W.Frag} {W : WX} {σ : St} {ρ ρ1 : EnvD} {Hf H Hf1 H1 : Hp}
/-- what is wanted of a result -/
def Post (T : Tx) (K : PySem.W.Frag) (W : WX) (σ : St) (ρ : EnvD) (Hf H : Hp) (Q : VK) : R EV → Prop
  | .ok e ρ' => ∀ v Hf' H', Stp (T.gm K) σ ρ Hf H σ ρ' Hf' H' → SR (T.gm K) Hf' H' v e → Mine σ ρ H ρ' H' e v → Q v H'
  | .ex x => Raised T K W σ ρ Hf H x
def PostT (T : Tx) (K : PySem.W.Frag) (W : WX) (σ : St) (ρ : EnvD) (Hf H : Hp) (Q : Bool → Hp → Prop) : R Bool → Prop
  | .ok b ρ' => ∀ Hf' H', Stp (T.gm K) σ ρ Hf H σ ρ' Hf' H' → Q b H'
  | .ex x => Raised T K W σ ρ Hf H x
theorem TX.mk {r : EnvD → Option (R EV)} {Q : VK} {res : R EV} (E : ER (T.gm K) σ ρ Hf H) (h : r ρ = some res) (p : Post T K W σ ρ Hf H Q res) : TX T K W r σ H Q :=
  ⟨ρ, Hf, res, E, h, by cases res <;> exact p⟩
theorem TX.get {r : EnvD → Option (R EV)} {Q : VK} (q : TX T K W r σ H Q) : ∃ ρ Hf res, ER (T.gm K) σ ρ Hf H ∧ r ρ = some res ∧ Post T K W σ ρ Hf H Q res := by
  obtain ⟨ρ, Hf, res, E, h, p⟩ := q
  exact ⟨ρ, Hf, res, E, h, by cases res <;> exact p⟩
theorem TT'.mk {r : EnvD → Option (R Bool)} {Q : Bool → Hp → Prop} {res : R Bool} (E : ER (T.gm K) σ ρ Hf H) (h : r ρ = some res) (p : PostT T K W σ ρ Hf H Q res) : TT' T K W r σ H Q :=
  ⟨ρ, Hf, res, E, h, by cases res <;> exact p⟩
theorem TT'.get {r : EnvD → Option (R Bool)} {Q : Bool → Hp → Prop} (q : TT' T K W r σ H Q) : ∃ ρ Hf res, ER (T.gm K) σ ρ Hf H ∧ r ρ = some res ∧ PostT T K W σ ρ Hf H Q res := by
  obtain ⟨ρ, Hf, res, E, h, p⟩ := q
  exact ⟨ρ, Hf, res, E, h, by cases res <;> exact p⟩
theorem Stp.fresh (st : Stp (T.gm K) σ ρ Hf H σ ρ1 Hf1 H1) {a : Addr} (h : Own σ ρ1 H1 a ∨ H1 a = none) : Own σ ρ H a ∨ H a = none := by
  cases e : H a with
  | none => exact .inr rfl
  | some o =>
    by_cases n : Own σ ρ H a
    · exact .inl n
    · have k := st.frame a o e n
      rcases h with h | h
      · rcases st.acc a (.inl h) with z | z | z
        · exact .inl z
        · cases q : Hf a with
          | none => exact absurd q z
          | some o' => have := (st.er.own h).1; rw [st.ext a o' q] at this; cases this
        · rw [e] at z; cases z
      · rw [k] at h; cases h
theorem Mine.step {ρ' : EnvD} {H' : Hp} {e : EV} {v : V} (st : Stp (T.gm K) σ ρ Hf H σ ρ1 Hf1 H1) (m : Mine σ ρ1 H1 ρ' H' e v) : Mine σ ρ H ρ' H' e v :=
  fun a h1 => ⟨st.fresh (m a h1).1, (m a h1).2⟩
theorem Post.step {Q : VK} {res : R EV} (st : Stp (T.gm K) σ ρ Hf H σ ρ1 Hf1 H1) (p : Post T K W σ ρ Hf H Q res) : Post T K W σ ρ1 Hf1 H1 Q res := by
  cases res with
  | ok e ρ' => exact fun v Hf' H' s r m => p v Hf' H' (st.trans s) r (m.step st)
  | ex x => exact Raised.step st p
theorem PostT.step {Q : Bool → Hp → Prop} {res : R Bool} (st : Stp (T.gm K) σ ρ Hf H σ ρ1 Hf1 H1) (p : PostT T K W σ ρ Hf H Q res) : PostT T K W σ ρ1 Hf1 H1 Q res := by
  cases res with
  | ok e ρ' => exact fun Hf' H' s => p Hf' H' (st.trans s)
  | ex x => exact Raised.step st p
/-- first a value that is read, then the rest -/
theorem TX.val {β : Type} {r : EnvD → Option (R EV)} {k : EV → EnvD → Option (R β)} {Q : V → Hp → Prop}
    (E : ER (T.gm K) σ ρ Hf H) {res : R β} (h : bindR (r ρ) k = some res)
    (ok : ∀ e ρ1 v Hf1 H1, k e ρ1 = some res → Stp (T.gm K) σ ρ Hf H σ ρ1 Hf1 H1 → Rep (T.gm K) Hf1 v e.fz → Q v H1)
    (ex : ∀ x, res = .ex x → Raised T K W σ ρ Hf H x) : TX T K W r σ H Q :=
  TX.bind E h (fun e ρ1 v Hf1 H1 hk st sr mi => by
    obtain ⟨Hf2, st2, r2⟩ := st.fz sr mi
    exact ok e ρ1 v Hf2 H1 hk st2 r2) ex
theorem TT'.bind {β : Type} {r : EnvD → Option (R Bool)} {k : Bool → EnvD → Option (R β)} {Q : Bool → Hp → Prop}
    (E : ER (T.gm K) σ ρ Hf H) {res : R β} (h : bindR (r ρ) k = some res)
    (ok : ∀ b ρ1 Hf1 H1, k b ρ1 = some res → Stp (T.gm K) σ ρ Hf H σ ρ1 Hf1 H1 → Q b H1)
    (ex : ∀ x, res = .ex x → Raised T K W σ ρ Hf H x) : TT' T K W r σ H Q := by
  cases hr : r ρ with
  | none => rw [hr] at h; cases h
  | some y =>
    cases y with
    | ex x =>
      rw [hr] at h
      have h' : some (R.ex x) = some res := h
      exact ⟨ρ, Hf, _, E, hr, ex x (Option.some.inj h').symm⟩
    | ok e ρ1 =>
      rw [hr] at h
      exact ⟨ρ, Hf, _, E, hr, fun Hf1 H1 s => ok e ρ1 Hf1 H1 h s⟩
/-- the truth of what is read -/
theorem truV {v : V} {d : D} {k : Bool} (r : RB (T.gm K) Hf H v d) (sh : Same Hf H) (h : truth d = some k) : TruV K v H k := by
  cases d with
  | non => cases r.inv_non; cases h; rfl
  | bl b => cases r.inv_bl; cases h; rfl
  | int i => cases r.inv_int; cases h; rfl
  | str x =>
    cases r.inv_str
    have h' : (if x.length ≤ most then some (x.length != 0) else none) = some k := h
    by_cases c : x.length ≤ most
    · rw [if_pos c] at h'
      cases h'
      refine ⟨most_le c, ?_⟩
      rw [Bool.eq_iff_iff]
      simp
    · rw [if_neg c] at h'; cases h'
  | tup xs =>
    obtain ⟨a, vs, rfl, h1, rs⟩ := r.inv_tup
    cases h
    exact .inr (.inl ⟨vs, SqT.same sh h1, by cases rs <;> rfl⟩)
  | lst xs =>
    obtain ⟨a, vs, rfl, h1, rs⟩ := r
    cases h
    exact .inl ⟨vs, .of h1, by cases rs <;> rfl⟩
  | frz xs =>
    obtain ⟨a, vs, rfl, h1, rs⟩ := r.inv_frz
    cases h
    exact .inl ⟨vs, sh.seq h1, by cases rs <;> rfl⟩
  | ins c ns xs => cases h
end

/-- an expression's reading as a value, as a test -/
structure Snd (T : Tx) (X : Cx) (W : WX) (e : Expr) (r : EnvD → Option (R EV)) : Prop where
  pe : PE X e (TX T X.K W r)
  pt : PT X e (TT' T X.K W (fun ρ => tst (r ρ)))
  pw : ∀ op xs p, e = .BoolOp op xs p → PW X e (TT' T X.K W (fun ρ => tst (r ρ)))
section
variable {T : Tx} {P : Prog} {C : Orc} {X : Cx} {W : WX} {a b c : Expr} {pos : Pos} {ra rb rc : EnvD → Option (R EV)}
/-- no BoolOp, no comparison, no not -/
def plainE : Expr → Bool
  | .BoolOp _ _ _ => false
  | .UnaryOp .Not _ _ => false
  | .Compare _ _ _ _ => false
  | .IfExp _ _ _ _ => false
  | .Starred _ _ => false
  | _ => true
theorem Snd.plain (h : PE X a (TX T X.K W ra)) (hp : ∀ whole, isTrue a X.env whole = (do let v ← whole; standAt a.pos; holding [v] (truthy v))) (hb : ∀ op xs p, a ≠ .BoolOp op xs p) : Snd T X W a ra where
  pe := h
  pw := fun op xs p e => absurd e (hb op xs p)
  pt := (pt_truth h hp).weak fun σ H Q q => by
    obtain ⟨ρ, Hf, res, E, h1, h2⟩ := q.get
    have h1' : bindR (ra ρ) (fun v ρ => match truth v.fz with | none => none | some b => some (.ok b ρ)) = some res := h1
    refine TX.val E h1' (fun e ρ1 v Hf1 H1 k st r => ?_) fun x hx => by subst hx; exact h2
    cases ht : truth e.fz with
    | none => rw [ht] at k; cases k
    | some t =>
      rw [ht] at k
      cases k
      exact ⟨t, truV (.of st.er.sub r) st.er.sub ht, h2 _ _ st⟩
theorem tst_fr {d : D} {k : Bool} {ρ : EnvD} (h : truth d = some k) : tst (some (.ok (.fr d) ρ)) = some (.ok k ρ) := by
  show (match truth d with | none => none | some b => some (R.ok b ρ)) = _
  rw [h]
theorem tst_bind {r : Option (R EV)} {k : EV → EnvD → Option (R EV)} : tst (bindR r k) = bindR r fun v ρ => tst (k v ρ) := by
  cases r with
  | none => rfl
  | some y => cases y <;> rfl
def andR (ra rb : EnvD → Option (R EV)) (ρ : EnvD) : Option (R EV) := bindR (ra ρ) fun v ρ1 => match truth v.fz with
  | some true => rb ρ1
  | some false => some (.ok (.fr v.fz) ρ1)
  | none => none
def orR (ra rb : EnvD → Option (R EV)) (ρ : EnvD) : Option (R EV) := bindR (ra ρ) fun v ρ1 => match truth v.fz with
  | some true => some (.ok (.fr v.fz) ρ1)
  | some false => rb ρ1
  | none => none
def notR (ra : EnvD → Option (R EV)) (ρ : EnvD) : Option (R EV) := bindR (ra ρ) fun v ρ1 => match truth v.fz with
  | some b => some (.ok (.fr (.bl (!b))) ρ1)
  | none => none
def ifeR (rc : EnvD → Option (R Bool)) (ra rb : EnvD → Option (R EV)) (ρ : EnvD) : Option (R EV) := bindR (rc ρ) fun t ρ1 => match t with
  | true => ra ρ1
  | false => rb ρ1
theorem tst_and (ρ : EnvD) : tst (andR ra rb ρ) = bindR (tst (ra ρ)) fun t ρ1 => match t with
    | true => tst (rb ρ1)
    | false => some (.ok false ρ1) := by
  unfold andR
  rw [tst_bind]
  cases h : ra ρ with
  | none => rfl
  | some y =>
    cases y with
    | ex x => rfl
    | ok v ρ1 =>
      show tst (match truth v.fz with | some true => rb ρ1 | some false => some (.ok (.fr v.fz) ρ1) | none => none) = bindR (match truth v.fz with | none => none | some b => some (.ok b ρ1)) _
      cases ht : truth v.fz with
      | none => rfl
      | some t =>
        cases t with
        | true => rfl
        | false => exact tst_fr ht
theorem tst_or (ρ : EnvD) : tst (orR ra rb ρ) = bindR (tst (ra ρ)) fun t ρ1 => match t with
    | true => some (.ok true ρ1)
    | false => tst (rb ρ1) := by
  unfold orR
  rw [tst_bind]
  cases h : ra ρ with
  | none => rfl
  | some y =>
    cases y with
    | ex x => rfl
    | ok v ρ1 =>
      show tst (match truth v.fz with | some true => some (.ok (.fr v.fz) ρ1) | some false => rb ρ1 | none => none) = bindR (match truth v.fz with | none => none | some b => some (.ok b ρ1)) _
      cases ht : truth v.fz with
      | none => rfl
      | some t =>
        cases t with
        | false => rfl
        | true => exact tst_fr ht
theorem tst_not (ρ : EnvD) : tst (notR ra ρ) = bindR (tst (ra ρ)) fun t ρ1 => some (.ok (!t) ρ1) := by
  unfold notR
  rw [tst_bind]
  cases h : ra ρ with
  | none => rfl
  | some y =>
    cases y with
    | ex x => rfl
    | ok v ρ1 =>
      show tst (match truth v.fz with | some b => some (.ok (.fr (.bl (!b))) ρ1) | none => none) = bindR (match truth v.fz with | none => none | some b => some (.ok b ρ1)) _
      cases ht : truth v.fz <;> rfl
/-- the last of a chain of and, or -/
theorem Snd.one {op : BoolOp} (h : Snd T X W a ra) : Snd T X W (.BoolOp op [a] pos) ra := by
  have w : PW X (.BoolOp op [a] pos) (TT' T X.K W (fun ρ => tst (ra ρ))) := by
    cases op with
    | And => exact pw_and1 h.pt
    | Or => exact pw_or1 h.pt
  exact ⟨pe_one h.pe, ⟨fun pins s σ H Q I q => w.run _ pins s σ H Q I q⟩, fun _ _ _ _ => w⟩
theorem Snd.and {rest : List Expr} (ha : Snd T X W a ra) (hb : Snd T X W (.BoolOp .And (b :: rest) pos) rb) : Snd T X W (.BoolOp .And (a :: b :: rest) pos) (andR ra rb) := by
  have w : PW X (.BoolOp .And (a :: b :: rest) pos) (TT' T X.K W (fun ρ => tst (andR ra rb ρ))) := (pw_and ha.pt (hb.pw _ _ _ rfl)).weak fun σ H Q q => by
    obtain ⟨ρ, Hf, res, E, h1, h2⟩ := q.get
    rw [tst_and] at h1
    refine TT'.bind E h1 (fun t ρ1 Hf1 H1 k st => ?_) fun x hx => by subst hx; exact h2
    cases t with
    | true => exact TT'.mk st.er k (h2.step st)
    | false => cases k; exact h2 _ _ st
  refine ⟨(pe_andT ha.pe hb.pe).weak fun σ H Q q => ?_, ⟨fun pins s σ H Q I q => w.run _ pins s σ H Q I q⟩, fun _ _ _ _ => w⟩
  obtain ⟨ρ, Hf, res, E, h1, h2⟩ := q.get
  refine TX.val E h1 (fun e ρ1 v Hf1 H1 k st r => ?_) fun x hx => by subst hx; exact h2
  cases ht : truth e.fz with
  | none => rw [ht] at k; cases k
  | some t =>
    rw [ht] at k
    refine ⟨t, truV (.of st.er.sub r) st.er.sub ht, ?_⟩
    cases t with
    | true => exact TX.mk st.er k (h2.step st)
    | false => cases k; exact h2 _ _ _ st r .fr
theorem Snd.or {rest : List Expr} (ha : Snd T X W a ra) (hb : Snd T X W (.BoolOp .Or (b :: rest) pos) rb) : Snd T X W (.BoolOp .Or (a :: b :: rest) pos) (orR ra rb) := by
  have w : PW X (.BoolOp .Or (a :: b :: rest) pos) (TT' T X.K W (fun ρ => tst (orR ra rb ρ))) := (pw_or ha.pt (hb.pw _ _ _ rfl)).weak fun σ H Q q => by
    obtain ⟨ρ, Hf, res, E, h1, h2⟩ := q.get
    rw [tst_or] at h1
    refine TT'.bind E h1 (fun t ρ1 Hf1 H1 k st => ?_) fun x hx => by subst hx; exact h2
    cases t with
    | false => exact TT'.mk st.er k (h2.step st)
    | true => cases k; exact h2 _ _ st
  refine ⟨(pe_orT ha.pe hb.pe).weak fun σ H Q q => ?_, ⟨fun pins s σ H Q I q => w.run _ pins s σ H Q I q⟩, fun _ _ _ _ => w⟩
  obtain ⟨ρ, Hf, res, E, h1, h2⟩ := q.get
  refine TX.val E h1 (fun e ρ1 v Hf1 H1 k st r => ?_) fun x hx => by subst hx; exact h2
  cases ht : truth e.fz with
  | none => rw [ht] at k; cases k
  | some t =>
    rw [ht] at k
    refine ⟨t, truV (.of st.er.sub r) st.er.sub ht, ?_⟩
    cases t with
    | false => exact TX.mk st.er k (h2.step st)
    | true => cases k; exact h2 _ _ _ st r .fr
theorem Snd.not (ha : Snd T X W a ra) : Snd T X W (.UnaryOp .Not a pos) (notR ra) where
  pe := (pe_notT ha.pe).weak fun σ H Q q => by
    obtain ⟨ρ, Hf, res, E, h1, h2⟩ := q.get
    refine TX.val E h1 (fun e ρ1 v Hf1 H1 k st r => ?_) fun x hx => by subst hx; exact h2
    cases ht : truth e.fz with
    | none => rw [ht] at k; cases k
    | some t =>
      rw [ht] at k
      cases k
      exact ⟨t, truV (.of st.er.sub r) st.er.sub ht, h2 _ _ _ st (.bl _) .fr⟩
  pt := (pt_not ha.pt).weak fun σ H Q q => by
    obtain ⟨ρ, Hf, res, E, h1, h2⟩ := q.get
    rw [tst_not] at h1
    refine TT'.bind E h1 (fun t ρ1 Hf1 H1 k st => ?_) fun x hx => by subst hx; exact h2
    cases k
    exact h2 _ _ st
  pw := fun op xs p e => nomatch e
theorem tst_ife {q : EnvD → Option (R Bool)} (ρ : EnvD) : tst (ifeR q ra rb ρ) = bindR (q ρ) fun t ρ1 => match t with
    | true => tst (ra ρ1)
    | false => tst (rb ρ1) := by
  unfold ifeR
  cases h : q ρ with
  | none => rfl
  | some y =>
    cases y with
    | ex x => rfl
    | ok t ρ1 => cases t <;> rfl
theorem Snd.ife (hc : Snd T X W c rc) (ha : Snd T X W a ra) (hb : Snd T X W b rb) : Snd T X W (.IfExp c a b pos) (ifeR (fun ρ => tst (rc ρ)) ra rb) where
  pe := (pe_ifExp hc.pt ha.pe hb.pe).weak fun σ H Q q => by
    obtain ⟨ρ, Hf, res, E, h1, h2⟩ := q.get
    refine TT'.bind E h1 (fun t ρ1 Hf1 H1 k st => ?_) fun x hx => by subst hx; exact h2
    cases t with
    | true => exact TX.mk st.er k (h2.step st)
    | false => exact TX.mk st.er k (h2.step st)
  pt := ⟨fun pins s σ H Q I q => by
    obtain ⟨ρ, Hf, res, E, h1, h2⟩ := q.get
    rw [tst_ife] at h1
    have q2 : TT' T X.K W (fun ρ => tst (rc ρ)) σ H (fun t H1 => if t = true then TT' T X.K W (fun ρ => tst (ra ρ)) σ H1 Q else TT' T X.K W (fun ρ => tst (rb ρ)) σ H1 Q) := by
      refine TT'.bind E h1 (fun t ρ1 Hf1 H1 k st => ?_) fun x hx => by subst hx; exact h2
      cases t with
      | true => exact TT'.mk st.er k (h2.step st)
      | false => exact TT'.mk st.er k (h2.step st)
    rw [PySem.isTrue]
    refine wpAny_bind (thn (hc.pt.run pins s σ H _ I q2) fun t s1 ⟨H1, I1, q3⟩ => ?_)
    cases t with
    | true => exact ha.pt.run pins s1 σ H1 Q I1 q3
    | false => exact hb.pt.run pins s1 σ H1 Q I1 q3⟩
  pw := fun op xs p e => nomatch e

/-! ### comparisons -/
theorem tst_op {o : Op} {es' : Es} (ρ : EnvD) : tst (ev P C (.op o es') ρ) = bindR (ev P C (.op o es') ρ) fun v ρ => match truth v.fz with | none => none | some b => some (.ok b ρ) := rfl
theorem ev_op {o : Op} {es' : Es} {ρ ρ1 : EnvD} {e : EV} (h : ev P C (.op o es') ρ = some (.ok e ρ1)) : ∃ C' ds, opS P C' o ds = some (.ok e) := by
  rw [ev] at h
  cases h1 : evl P C es' ρ with
  | none => rw [h1] at h; cases h
  | some y =>
    rw [h1] at h
    cases y with
    | ex x => cases h
    | ok ods ρ2 =>
      have h2 : (if o.keeps && !ods.all OD.isD then none else match views ρ2 ods with
        | none => none
        | some ds => lift (opS P (orc C o ods) o ds) ρ2) = some (R.ok e ρ1) := h
      by_cases c : (o.keeps && !ods.all OD.isD) = true
      · rw [if_pos c] at h2; cases h2
      · rw [if_neg c] at h2
        cases hv : views ρ2 ods with
        | none => rw [hv] at h2; cases h2
        | some ds =>
          rw [hv] at h2
          have h3 : lift (opS P (orc C o ods) o ds) ρ2 = some (R.ok e ρ1) := h2
          cases ho : opS P (orc C o ods) o ds with
          | none => rw [ho] at h3; cases h3
          | some an =>
            rw [ho] at h3
            cases an with
            | ok e' => cases h3; exact ⟨_, ds, ho⟩
            | ex x => cases h3
/-- a comparison whose answer is a bool -/
theorem Snd.cmp {o : Op} {op : CmpOp} {a' b' : E} (ha : PE X a (TO T X.K W (evo P C a'))) (hb : PE X b (TO T X.K W (evo P C b'))) (hm : behindInMarks op b = false)
    (hbl : ∀ C' ds an, opS P C' o ds = some (.ok an) → ∃ k, an = .fr (.bl k))
    (hr : ∀ pins s σ H x y v u Q, Inv X pins σ H s → RelV x v → RelV y u → OpQ T P C X.K W σ o [x, y] H Q → wpAny (model X.prog X.w) X.A (compareOp op v u) (EP X pins σ Q) X.xe s) :
    Snd T X W (.Compare a [op] [b] pos) (ev P C (.op o (.cons a' (.cons b' .nil)))) where
  pe := ⟨fun pins s σ H Q I q => by
    have q1 := (TX.op q).cons
    refine wpAny_Compare1 (thn (ha.run pins s σ H _ I q1) fun v s1 ⟨x, H1, I1, r1, q2⟩ => ?_) hm
    refine thn (hb.run pins s1 σ H1 _ I1 q2.cons) fun u s2 ⟨y, H2, I2, r2, q3⟩ => ?_
    exact hr pins s2 σ H2 x y v u Q I2 r1 r2 q3.nil⟩
  pt := ⟨fun pins s σ H Q I q => by
    obtain ⟨ρ, Hf, res, E, h1, h2⟩ := q.get
    have q0 : TX T X.K W (ev P C (.op o (.cons a' (.cons b' .nil)))) σ H (fun x H1 => ∃ k, x = .bl k ∧ Q k H1) := by
      cases hv : ev P C (.op o (.cons a' (.cons b' .nil))) ρ with
      | none => rw [hv] at h1; cases h1
      | some y =>
        rw [hv] at h1
        cases y with
        | ex x => cases h1; exact TX.mk E hv h2
        | ok e ρ1 =>
          obtain ⟨C', ds, ho⟩ := ev_op hv
          obtain ⟨k, rfl⟩ := hbl C' ds e ho
          cases h1
          refine TX.mk E hv fun v Hf' H' st sr mi => ?_
          cases (show Rep (T.gm X.K) Hf' v (.bl k) from sr)
          exact ⟨k, rfl, h2 _ _ st⟩
    have q1 := (TX.op q0).cons
    refine wpAny_isTrue_Compare1 (thn (ha.run pins s σ H _ I q1) fun v s1 ⟨x, H1, I1, r1, q2⟩ => ?_) hm
    refine thn (hb.run pins s1 σ H1 _ I1 q2.cons) fun u s2 ⟨y, H2, I2, r2, q3⟩ => ?_
    refine thn (hr pins s2 σ H2 x y v u _ I2 r1 r2 q3.nil) fun c s3 ⟨z, H3, I3, r3, k, e, q4⟩ => ?_
    subst e
    cases r3
    exact wpAny_truthy_bool ⟨H3, I3, q4⟩⟩
  pw := fun op xs p e => nomatch e
end
end Ev
/-! Ev 9: rules for each form of expression. -/
namespace Ev
open PySem PySem.Spec L2

def notStar : Expr → Bool
  | .Starred _ _ => false
  | _ => true
theorem starE {e : Expr} {es : List Expr} {env : Env} (h : notStar e = true) : starEach (e :: es) env = (false, PySem.eval e env) :: starEach es env := by
  cases e <;> first | rfl | cases h
theorem starA {env : Env} {pos : Pos} : ∀ {es : List Expr}, es.all notStar = true → (backTo pos (starEach es env)).any (·.1) = false
  | [], _ => rfl
  | e :: es, h => by
    rw [List.all_cons, Bool.and_eq_true] at h
    rw [starE h.1]
    show (false || (backTo pos (starEach es env)).any (·.1)) = false
    rw [starA h.2]
    rfl
/-- no super().f -/
def notSup : Expr → Bool
  | .Call (.Name x _) [] [] _ => !(x == ("super" : Str))
  | _ => true
theorem attB {e : Expr} {f : Str} {env : Env} (h : notSup e = true) : attributeBase e f env (PySem.eval e env) = PySem.eval e env := by
  unfold attributeBase
  split
  · rename_i id _ _
    have h' : (!(id == ("super" : Str))) = true := h
    have : (id != ("super" : Str)) = true := h'
    rw [this]
    simp
  · rfl
section
variable {T : Tx} {P : Prog} {C : Orc} {L : Nat} {X : Cx} {W : WX} {a b c : Expr} {pos : Pos} {o : Op} {a' b' c' : E}

theorem x_bin {op : Operator} (ha : PE X a (TO T X.K W (evo P C a'))) (hb : PE X b (TO T X.K W (evo P C b')))
    (hr : ∀ pins s σ H x y v u Q, Inv X pins σ H s → RelV x v → RelV y u → OpQ T P C X.K W σ o [x, y] H Q → wpAny (model X.prog X.w) X.A (binaryOp op v u) (EP X pins σ Q) X.xe s) :
    PE X (.BinOp a op b pos) (TX T X.K W (ev P C (.op o (.cons a' (.cons b' .nil))))) := ⟨fun pins s σ H Q I q =>
  wpAny_BinOp (thn (ha.run pins s σ H _ I (TX.op q).cons) fun v s1 ⟨x, H1, I1, r1, q2⟩ => thn (hb.run pins s1 σ H1 _ I1 q2.cons) fun u s2 ⟨y, H2, I2, r2, q3⟩ => hr pins s2 σ H2 x y v u Q I2 r1 r2 q3.nil)⟩
theorem x_un {op : UnaryOp} (ha : PE X a (TO T X.K W (evo P C a')))
    (hr : ∀ pins s σ H x v Q, Inv X pins σ H s → RelV x v → OpQ T P C X.K W σ o [x] H Q → wpAny (model X.prog X.w) X.A (unaryOp op v) (EP X pins σ Q) X.xe s) :
    PE X (.UnaryOp op a pos) (TX T X.K W (ev P C (.op o (.cons a' .nil)))) := ⟨fun pins s σ H Q I q =>
  PyProof.Rows.UnaryOp_ (thn (ha.run pins s σ H _ I (TX.op q).cons) fun v s1 ⟨x, H1, I1, r1, q2⟩ => hr pins s1 σ H1 x v Q I1 r1 q2.nil)⟩
theorem x_idx (ha : PE X a (TO T X.K W (evo P C a'))) (hb : PE X b (TO T X.K W (evo P C b'))) (hs : ∀ o i, subscripted b false o i = operate [o, i] (getItem o i)) :
    PE X (.Subscript a b pos) (TX T X.K W (ev P C (.op .idx (.cons a' (.cons b' .nil))))) := ⟨fun pins s σ H Q I q =>
  PyProof.Rows.Subscript_ (thn (ha.run pins s σ H _ I (TX.op q).cons) fun v s1 ⟨x, H1, I1, r1, q2⟩ => thn (hb.run pins s1 σ H1 _ I1 q2.cons) fun u s2 ⟨y, H2, I2, r2, q3⟩ => wp_idx I2 r1 r2 q3.nil (hs _ _))⟩
/-- a slice's bounds -/
theorem slice_q {lo hi : Bool} {x : V} {vs : List V} {σ : St} {H : Hp} {Q : VK} {K : PySem.W.Frag} (q : OpQ T P C K W σ (.slice lo hi) (x :: vs) H Q) :
    match lo, hi with
    | true, true => ∃ i j, vs = [.int i, .int j] ∧ SlQ T K W σ x (some i) (some j) H Q
    | true, false => ∃ i, vs = [.int i] ∧ SlQ T K W σ x (some i) none H Q
    | false, true => ∃ j, vs = [.int j] ∧ SlQ T K W σ x none (some j) H Q
    | false, false => vs = [] ∧ SlQ T K W σ x none none H Q := by
  obtain ⟨ρ1, Hf1, ds, C', an, E, r, _, _, h, f⟩ := q
  cases r with
  | @cons _ _ d ds r1 r2 =>
    cases lo <;> cases hi
    · cases r2 with
      | nil => exact ⟨rfl, ρ1, Hf1, d, an, E, r1, h, f⟩
      | cons _ _ => cases h
    · cases r2 with
      | nil => cases h
      | @cons _ _ d2 ds2 r2 r3 =>
        cases r3 with
        | nil =>
          cases d2 with
          | int j => exact ⟨j, by rw [r2.inv_int], ρ1, Hf1, d, an, E, r1, h, f⟩
          | _ => cases h
        | cons _ _ => cases d2 <;> cases h
    · cases r2 with
      | nil => cases h
      | @cons _ _ d2 ds2 r2 r3 =>
        cases r3 with
        | nil =>
          cases d2 with
          | int j => exact ⟨j, by rw [r2.inv_int], ρ1, Hf1, d, an, E, r1, h, f⟩
          | _ => cases h
        | cons _ _ => cases d2 <;> cases h
    · cases r2 with
      | nil => cases h
      | @cons _ _ d2 ds2 r2 r3 =>
        cases r3 with
        | nil => cases d2 <;> cases h
        | @cons _ _ d3 ds3 r3 r4 =>
          cases r4 with
          | nil =>
            cases d2 with
            | int i =>
              cases d3 with
              | int j => exact ⟨i, j, by rw [r2.inv_int, r3.inv_int], ρ1, Hf1, d, an, E, r1, h, f⟩
              | _ => cases h
            | _ => cases d3 <;> cases h
          | cons _ _ => cases d2 <;> cases d3 <;> cases h
theorem slice_end {value : Expr} {lo hi : Option Expr} {p2 : Pos} {pins : List (Addr × Obj)} {σ : St} {H : Hp} {s : Shared} {x : V} {v vl vu : Value} {l u : Option Int} {Q : VK} (I : Inv X pins σ H s) (r : RelV x v) (pl : IsPart vl l) (pu : IsPart vu u) (q : SlQ T X.K W σ x l u H Q) :
    wpAny (model X.prog X.w) X.A (PyProof.Rows.subscriptTail value (.Slice lo hi none p2) v (.ref s.heap.objs.size)) (EP X pins σ Q) X.xe { s with heap := s.heap.push { cls := .type "slice", data := .fields #[vl, vu, .none] } } := by
  have I4 : Inv X pins σ H { s with heap := s.heap.push { cls := .type "slice", data := .fields #[vl, vu, .none] } } := I.kept (t' := s.toks) fun b ob q => Heap.get?_push_of_some _ q
  obtain ⟨T', id, hT, ht, hg⟩ := wp_slice (T := T) (W := W) pins { s with heap := s.heap.push { cls := .type "slice", data := .fields #[vl, vu, .none] } } σ H x v vl vu l u s.heap.objs.size Q I4 r (Heap.IsSliceOf.new ..) pl pu ⟨σ, q⟩
  exact PyProof.Rows.tail_any (ops := [.ref s.heap.objs.size, v]) ht hT hg (by with_unfolding_all rfl)
theorem x_slice2 {p2 : Pos} (ha : PE X a (TO T X.K W (evo P C a'))) (hb : PE X b (TO T X.K W (evo P C b'))) (hc : PE X c (TO T X.K W (evo P C c'))) :
    PE X (.Subscript a (.Slice (some b) (some c) none p2) pos) (TX T X.K W (ev P C (.op (.slice true true) (.cons a' (.cons b' (.cons c' .nil)))))) := ⟨fun pins s σ H Q I q => by
  refine PyProof.Rows.Subscript_ (thn (ha.run pins s σ H _ I (TX.op q).cons) fun v s1 ⟨x, H1, I1, r1, q1⟩ => ?_)
  refine wpAny_Slice ?_
  rw [evalPart_some]
  refine thn (hb.run pins s1 σ H1 _ I1 q1.cons) fun vl s2 ⟨y, H2, I2, r2, q2⟩ => ?_
  rw [evalPart_some]
  refine thn (hc.run pins s2 σ H2 _ I2 q2.cons) fun vu s3 ⟨z, H3, I3, r3, q3⟩ => ?_
  rw [evalPart_none]
  refine wpAny_pure ?_
  obtain ⟨i, j, e, sq⟩ := slice_q (lo := true) (hi := true) q3.nil
  cases e
  obtain ⟨t, rfl⟩ := r2
  obtain ⟨t', rfl⟩ := r3
  exact slice_end I3 r1 (.int i t) (.int j t') sq⟩
theorem x_slice1 {p2 : Pos} (ha : PE X a (TO T X.K W (evo P C a'))) (hb : PE X b (TO T X.K W (evo P C b'))) :
    PE X (.Subscript a (.Slice (some b) none none p2) pos) (TX T X.K W (ev P C (.op (.slice true false) (.cons a' (.cons b' .nil))))) := ⟨fun pins s σ H Q I q => by
  refine PyProof.Rows.Subscript_ (thn (ha.run pins s σ H _ I (TX.op q).cons) fun v s1 ⟨x, H1, I1, r1, q1⟩ => ?_)
  refine wpAny_Slice ?_
  rw [evalPart_some]
  refine thn (hb.run pins s1 σ H1 _ I1 q1.cons) fun vl s2 ⟨y, H2, I2, r2, q2⟩ => ?_
  rw [evalPart_none]
  refine wpAny_pure ?_
  refine wpAny_pure ?_
  obtain ⟨i, e, sq⟩ := slice_q (lo := true) (hi := false) q2.nil
  cases e
  obtain ⟨t, rfl⟩ := r2
  exact slice_end I2 r1 (.int i t) .none sq⟩
theorem x_slice0 {p2 : Pos} (ha : PE X a (TO T X.K W (evo P C a'))) (hb : PE X b (TO T X.K W (evo P C b'))) :
    PE X (.Subscript a (.Slice none (some b) none p2) pos) (TX T X.K W (ev P C (.op (.slice false true) (.cons a' (.cons b' .nil))))) := ⟨fun pins s σ H Q I q => by
  refine PyProof.Rows.Subscript_ (thn (ha.run pins s σ H _ I (TX.op q).cons) fun v s1 ⟨x, H1, I1, r1, q1⟩ => ?_)
  refine wpAny_Slice ?_
  rw [evalPart_none]
  refine wpAny_pure ?_
  rw [evalPart_some]
  refine thn (hb.run pins s1 σ H1 _ I1 q1.cons) fun vl s2 ⟨y, H2, I2, r2, q2⟩ => ?_
  refine wpAny_pure ?_
  obtain ⟨i, e, sq⟩ := slice_q (lo := false) (hi := true) q2.nil
  cases e
  obtain ⟨t, rfl⟩ := r2
  exact slice_end I2 r1 .none (.int i t) sq⟩
/-- displays -/
theorem x_tup {es : List Expr} {es' : Es} {k : Nat} (h : PA X es (TL T X.K W (evl P C es'))) : PE X (.Tuple es k pos) (TX T X.K W (ev P C (.op .tup es'))) := (pe_tup h).weak fun σ H Q q => by
  obtain ⟨ρ, Hf, res, E, h1, h2⟩ := TX.op q
  refine ⟨ρ, Hf, res, E, h1, ?_⟩
  cases res with
  | ex x => exact h2
  | ok os ρ' =>
    intro vs Hf' H' st ors
    obtain ⟨ρ1, Hf1, ds, C', an, E1, r, hk, z, ho, f⟩ := h2 vs Hf' H' st ors
    have ho' : (if ds.length ≤ most then valA (.tup ds) else none) = some an := by
      have e : opS P C' .tup ds = if ds.length ≤ most then valA (.tup ds) else none := by
        unfold opS; rfl
      rw [← e]; exact ho
    by_cases c : ds.length ≤ most
    · rw [if_pos c] at ho'
      cases ho'
      have rs := hk rfl
      exact ⟨by rw [rs.length]; exact most_le c, fun p hp => f.newT E1 rs hp⟩
    · rw [if_neg c] at ho'; cases ho'
theorem x_lst {es : List Expr} {es' : Es} (h : PA X es (TL T X.K W (evl P C es'))) : PE X (.List es pos) (TX T X.K W (ev P C (.op .lst es'))) := (pe_lst h).weak fun σ H Q q => by
  obtain ⟨ρ, Hf, res, E, h1, h2⟩ := TX.op q
  refine ⟨ρ, Hf, res, E, h1, ?_⟩
  cases res with
  | ex x => exact h2
  | ok os ρ' =>
    intro vs Hf' H' st ors
    obtain ⟨ρ1, Hf1, ds, C', an, E1, r, hk, z, ho, f⟩ := h2 vs Hf' H' st ors
    have ho' : (if ds.length ≤ most then some (.ok (.ow ds)) else none) = some an := by
      have e : opS P C' .lst ds = if ds.length ≤ most then some (.ok (.ow ds)) else none := by
        unfold opS; rfl
      rw [← e]; exact ho
    by_cases c : ds.length ≤ most
    · rw [if_pos c] at ho'
      cases ho'
      have rs := hk rfl
      exact ⟨by rw [rs.length]; exact most_le c, fun p hp => f.newL E1 rs hp⟩
    · rw [if_neg c] at ho'; cases ho'
theorem x_attr (ok : Cok T P C L X W) {f : Nat} (ha : PE X a (TO T X.K W (evo P C a'))) (hb : notSup a = true) : PE X (.Attribute a (T.fn f) pos) (TX T X.K W (ev P C (.op (.attr f) (.cons a' .nil)))) := ⟨fun pins s σ H Q I q =>
  attr_of (attB hb) (thn (ha.run pins s σ H _ I (TX.op q).cons) fun v s1 ⟨x, H1, I1, r1, q1⟩ => wp_attr ok I1 r1 q1.nil)⟩
/-- f(..), f a built-in function or type -/
theorem x_blt {x : Str} {p : Pos} {id : String} {es : List Expr} {e : Expr} {es' : Es} (hg : Gl X x) (hm : X.mg x = none) (hv : bootBuiltins x = some (.builtin id)) (h : PA X (e :: es) (TL T X.K W (evl P C es'))) (hs : (e :: es).all notStar = true) (hn : x ≠ "__name__") (hdb : (x == ("__debug__" : Str)) = false)
    (hr : ∀ pins s σ H vs us Q, Inv X pins σ H s → Vals vs us → OpQ T P C X.K W σ o vs H Q → wpAny (model X.prog X.w) X.A (call (.builtin id) us) (EP X pins σ Q) X.xe s) :
    PE X (.Call (.Name x p) (e :: es) [] pos) (TX T X.K W (ev P C (.op o es'))) := ⟨fun pins s σ H Q I q => by
  rw [List.all_cons, Bool.and_eq_true] at hs
  refine wpAny_Call_Name_kw (ld_blt I hg hm hv ?_ hn hdb)
  exact PyProof.Rows.callWith_builtin1 (thn (h.run pos pins s σ H _ I (TX.op q)) fun us s1 ⟨vs, H1, I1, r1, q1⟩ => hr pins s1 σ H1 vs us Q I1 r1 q1) (starE hs.1) (starA hs.2)⟩
theorem x_typ {x : Str} {p : Pos} {id : String} {es : List Expr} {e : Expr} {es' : Es} (hg : Gl X x) (hm : X.mg x = none) (hv : bootBuiltins x = some (.type id)) (h : PA X (e :: es) (TL T X.K W (evl P C es'))) (hs : (e :: es).all notStar = true) (hn : x ≠ "__name__") (hdb : (x == ("__debug__" : Str)) = false)
    (hr : ∀ pins s σ H vs us Q, Inv X pins σ H s → Vals vs us → OpQ T P C X.K W σ o vs H Q → wpAny (model X.prog X.w) X.A (call (.type id) us) (EP X pins σ Q) X.xe s) :
    PE X (.Call (.Name x p) (e :: es) [] pos) (TX T X.K W (ev P C (.op o es'))) := ⟨fun pins s σ H Q I q => by
  rw [List.all_cons, Bool.and_eq_true] at hs
  refine wpAny_Call_Name_kw (ld_blt I hg hm hv ?_ hn hdb)
  exact PyProof.Rows.callWith_type1 (thn (h.run pos pins s σ H _ I (TX.op q)) fun us s1 ⟨vs, H1, I1, r1, q1⟩ => hr pins s1 σ H1 vs us Q I1 r1 q1) (starE hs.1) (starA hs.2)⟩
theorem x_gfun {x : Str} {p : Pos} {id : String} {es : List Expr} {e : Expr} {es' : Es} (hg : Gl X x) (hm : X.mg x = some (.builtin id)) (h : PA X (e :: es) (TL T X.K W (evl P C es'))) (hs : (e :: es).all notStar = true) (hdb : (x == ("__debug__" : Str)) = false)
    (hr : ∀ pins s σ H vs us Q, Inv X pins σ H s → Vals vs us → OpQ T P C X.K W σ o vs H Q → wpAny (model X.prog X.w) X.A (call (.builtin id) us) (EP X pins σ Q) X.xe s) :
    PE X (.Call (.Name x p) (e :: es) [] pos) (TX T X.K W (ev P C (.op o es'))) := ⟨fun pins s σ H Q I q => by
  rw [List.all_cons, Bool.and_eq_true] at hs
  refine wpAny_Call_Name_kw (ld_glob I hg hm ?_ hdb)
  exact PyProof.Rows.callWith_builtin1 (thn (h.run pos pins s σ H _ I (TX.op q)) fun us s1 ⟨vs, H1, I1, r1, q1⟩ => hr pins s1 σ H1 vs us Q I1 r1 q1) (starE hs.1) (starA hs.2)⟩
end
end Ev
/-! Ev 10: isinstance, chains. -/
namespace Ev
open PySem PySem.Spec L2

def Ty.nam : Ty → String
  | .int => "int" | .bool => "bool" | .str => "str" | .tuple => "tuple" | .list => "list" | .cls _ => ""
def tyV (T : Tx) : Ty → Value
  | .cls c => .ref (T.ca c)
  | t => .type t.nam
def tyVV (T : Tx) : Ty → V
  | .cls c => .ref (T.ca c)
  | t => .ty t.nam
def dTy (T : Tx) : D → Value
  | .non => .type "NoneType" | .bl _ => .type "bool" | .int _ => .type "int" | .str _ => .type "str" | .tup _ => .type "tuple" | .lst _ => .type "list" | .frz _ => .type "list"
  | .ins c _ _ => .ref (T.ca c)
theorem tyV_cls (T : Tx) (t : Ty) : ClsV (tyVV T t) (tyV T t) := by
  cases t with
  | cls c => exact .own _
  | _ => exact .ty _
theorem tyV_rel (T : Tx) (t : Ty) : RelV (tyVV T t) (tyV T t) := by
  cases t <;> rfl
/-- two built-in types -/
theorem kit_bb {K : PySem.W.Frag} : ∀ a ∈ bltT, ∀ t : Ty, (∀ c, t ≠ .cls c) → PySem.W.kitOne K (.type a) (.type t.nam) = some (a == t.nam || (a == "bool" && t.nam == "int")) := by
  have key : ∀ a ∈ bltT, ∀ b ∈ (["int", "bool", "str", "tuple", "list"] : List String), kitB a b = some (a == b || (a == "bool" && b == "int")) := by decide +kernel
  intro a ha t ht
  refine kit_ty (key a ha _ ?_)
  cases t with
  | cls c => exact absurd rfl (ht c)
  | _ => simp [Ty.nam]
section
variable {T : Tx} {P : Prog} {C : Orc} {L : Nat} {X : Cx} {W : WX} {pins : List (Addr × Obj)} {σ : St} {H Hf : Hp} {s : Shared} {x : V} {u : Value} {d : D}
theorem tyD_kit (fac : Fac T P X.K X.mg) {t : Ty} {b : Bool} (h : tyD P d t = some b) : PySem.W.kitOne X.K (dTy T d) (tyV T t) = some b := by
  have base : ∀ a ∈ bltT, dTy T d = .type a → (∀ c, t = .cls c → (if P.sub c c = some true then some false else none) = some b) →
      ((∀ c, t ≠ .cls c) → (a == t.nam || (a == "bool" && t.nam == "int")) = b) → PySem.W.kitOne X.K (dTy T d) (tyV T t) = some b := fun a ha e h1 h2 => by
    rw [e]
    cases t with
    | cls c =>
      have h1 := h1 c rfl
      by_cases q : P.sub c c = some true
      · rw [if_pos q] at h1
        cases h1
        exact fac.kBC c q a ha
      · rw [if_neg q] at h1; cases h1
    | int => exact (kit_bb a ha .int (fun c z => by cases z)).trans (congrArg some (h2 fun c z => by cases z))
    | bool => exact (kit_bb a ha .bool (fun c z => by cases z)).trans (congrArg some (h2 fun c z => by cases z))
    | str => exact (kit_bb a ha .str (fun c z => by cases z)).trans (congrArg some (h2 fun c z => by cases z))
    | tuple => exact (kit_bb a ha .tuple (fun c z => by cases z)).trans (congrArg some (h2 fun c z => by cases z))
    | list => exact (kit_bb a ha .list (fun c z => by cases z)).trans (congrArg some (h2 fun c z => by cases z))
  cases d with
  | ins c ns xs =>
    cases t with
    | cls c' =>
      have h' : (if P.exc c = false then P.sub c c' else none) = some b := h
      by_cases q : P.exc c = false
      · rw [if_pos q] at h'; exact (fac.kCC c c' b h').2
      · rw [if_neg q] at h'; cases h'
    | int =>
      have h' : (if P.sub c c = some true ∧ P.exc c = false then some false else none) = some b := h
      by_cases q : P.sub c c = some true ∧ P.exc c = false
      · rw [if_pos q] at h'; cases h'; exact fac.kCB c q.1 "int" (by simp [bltT])
      · rw [if_neg q] at h'; cases h'
    | bool =>
      have h' : (if P.sub c c = some true ∧ P.exc c = false then some false else none) = some b := h
      by_cases q : P.sub c c = some true ∧ P.exc c = false
      · rw [if_pos q] at h'; cases h'; exact fac.kCB c q.1 "bool" (by simp [bltT])
      · rw [if_neg q] at h'; cases h'
    | str =>
      have h' : (if P.sub c c = some true ∧ P.exc c = false then some false else none) = some b := h
      by_cases q : P.sub c c = some true ∧ P.exc c = false
      · rw [if_pos q] at h'; cases h'; exact fac.kCB c q.1 "str" (by simp [bltT])
      · rw [if_neg q] at h'; cases h'
    | tuple =>
      have h' : (if P.sub c c = some true ∧ P.exc c = false then some false else none) = some b := h
      by_cases q : P.sub c c = some true ∧ P.exc c = false
      · rw [if_pos q] at h'; cases h'; exact fac.kCB c q.1 "tuple" (by simp [bltT])
      · rw [if_neg q] at h'; cases h'
    | list =>
      have h' : (if P.sub c c = some true ∧ P.exc c = false then some false else none) = some b := h
      by_cases q : P.sub c c = some true ∧ P.exc c = false
      · rw [if_pos q] at h'; cases h'; exact fac.kCB c q.1 "list" (by simp [bltT])
      · rw [if_neg q] at h'; cases h'
  | non =>
    refine base "NoneType" (by simp [bltT]) rfl (fun c e => by subst e; exact h) fun ht => ?_
    cases t with
    | cls c => exact absurd rfl (ht c)
    | _ => cases h; rfl
  | bl y =>
    refine base "bool" (by simp [bltT]) rfl (fun c e => by subst e; exact h) fun ht => ?_
    cases t with
    | cls c => exact absurd rfl (ht c)
    | _ => cases h; rfl
  | int y =>
    refine base "int" (by simp [bltT]) rfl (fun c e => by subst e; exact h) fun ht => ?_
    cases t with
    | cls c => exact absurd rfl (ht c)
    | _ => cases h; rfl
  | str y =>
    refine base "str" (by simp [bltT]) rfl (fun c e => by subst e; exact h) fun ht => ?_
    cases t with
    | cls c => exact absurd rfl (ht c)
    | _ => cases h; rfl
  | tup y =>
    refine base "tuple" (by simp [bltT]) rfl (fun c e => by subst e; exact h) fun ht => ?_
    cases t with
    | cls c => exact absurd rfl (ht c)
    | _ => cases h; rfl
  | lst y =>
    refine base "list" (by simp [bltT]) rfl (fun c e => by subst e; exact h) fun ht => ?_
    cases t with
    | cls c => exact absurd rfl (ht c)
    | _ => cases h; rfl
  | frz y =>
    refine base "list" (by simp [bltT]) rfl (fun c e => by subst e; exact h) fun ht => ?_
    cases t with
    | cls c => exact absurd rfl (ht c)
    | _ => cases h; rfl
theorem isaD_kit (fac : Fac T P X.K X.mg) : ∀ {ts : List Ty} {b : Bool}, isaD P d ts = some b → PySem.W.kitAny X.K (dTy T d) (ts.map (tyV T)) = some b
  | [], b, h => by cases h; rfl
  | t :: ts, b, h => by
    have h' : (match tyD P d t with | some true => some true | some false => isaD P d ts | none => none) = some b := h
    rw [List.map_cons]
    cases e : tyD P d t with
    | none => rw [e] at h'; cases h'
    | some k =>
      rw [e] at h'
      refine kitAny_cons (tyD_kit fac e) (fun hk => ?_) fun hk => ?_
      · subst hk; exact isaD_kit fac h'
      · subst hk; cases h'; rfl
theorem isaX_kit (fac : Fac T P X.K X.mg) {c : Nat} : ∀ {cs : List Nat} {b : Bool}, isaX P c cs = some b → PySem.W.kitAny X.K (.ref (T.ca c)) ((cs.map Ty.cls).map (tyV T)) = some b
  | [], b, h => by cases h; rfl
  | c' :: cs, b, h => by
    have h' : (match P.sub c c' with | some true => some true | some false => isaX P c cs | none => none) = some b := h
    rw [List.map_cons, List.map_cons]
    cases e : P.sub c c' with
    | none => rw [e] at h'; cases h'
    | some k =>
      rw [e] at h'
      refine kitAny_cons (fac.kCC c c' k e).2 (fun hk => ?_) fun hk => ?_
      · subst hk; exact isaX_kit fac h'
      · subst hk; cases h'; rfl
/-- what isinstance asks of a value -/
theorem kitD (fac : Fac T P X.K X.mg) (I : Inv X pins σ H s) (rx : RelV x u) (r : RB (T.gm X.K) Hf H x d) (sh : Same Hf H) (hd : ∀ c ns xs, d = .ins c ns xs → P.sub c c = some true ∧ P.exc c = false) :
    ∃ Z : Heap → Prop, PySem.W.KitX X.K u (dTy T d) Z ∧ Z s.heap ∧ u ≠ .builtin "__main__.__loader__#opaque" := by
  cases d with
  | non => cases r.inv_non; cases rx; exact ⟨_, PySem.W.kitx_none, True.intro, fun z => nomatch z⟩
  | bl b => cases r.inv_bl; cases rx; exact ⟨_, PySem.W.kitx_bool, True.intro, fun z => nomatch z⟩
  | int i => cases r.inv_int; obtain ⟨t, rfl⟩ := rx; exact ⟨_, PySem.W.kitx_int, True.intro, fun z => nomatch z⟩
  | str y => cases r.inv_str; obtain ⟨t, rfl⟩ := rx; exact ⟨_, PySem.W.kitx_str, True.intro, fun z => nomatch z⟩
  | tup xs =>
    obtain ⟨a, vs, rfl, h1, _⟩ := r.inv_tup
    cases rx
    obtain ⟨its, _, ⟨o, e1, e2, _⟩, _⟩ := I.tuple (SqT.same sh h1)
    exact ⟨_, PySem.W.kitx_tuple, ⟨o, e1, e2⟩, fun z => nomatch z⟩
  | lst xs =>
    obtain ⟨a, vs, rfl, h1, _⟩ := r
    cases rx
    obtain ⟨_, its, k, _, e1⟩ := I.hok _ _ h1
    exact ⟨_, PySem.W.kitx_list, ⟨_, e1, rfl⟩, fun z => nomatch z⟩
  | frz xs =>
    obtain ⟨a, vs, rfl, h1, _⟩ := r.inv_frz
    cases rx
    obtain ⟨its, _, ⟨o, _, e1, e2, _⟩, _⟩ := I.list (sh.seq h1)
    exact ⟨_, PySem.W.kitx_list, ⟨o, e1, e2⟩, fun z => nomatch z⟩
  | ins c ns xs =>
    obtain ⟨cl, ha, hn, htk, hm⟩ := fac.isI c (hd c ns xs rfl).1 (hd c ns xs rfl).2
    obtain ⟨a, dx, vs, e, h, _⟩ := r
    subst e
    cases rx
    obtain ⟨mA, O, _⟩ := ins_get I.hok h
    obtain ⟨od, J, _⟩ := O.look
    exact ⟨_, PySem.W.kitx_own (cl.get _) cl.hd ha hn htk hm, J, fun z => nomatch z⟩
theorem isaD_ins {c : Nat} {ns : List Nat} {xs : List D} (fac : Fac T P X.K X.mg) : ∀ {ts : List Ty} {b : Bool}, isaD P (.ins c ns xs) ts = some b → ts ≠ [] → P.sub c c = some true ∧ P.exc c = false
  | [], b, h, hn => absurd rfl hn
  | t :: ts, b, h, _ => by
    have h' : (match tyD P (.ins c ns xs) t with | some true => some true | some false => isaD P (.ins c ns xs) ts | none => none) = some b := h
    cases e : tyD P (.ins c ns xs) t with
    | none => rw [e] at h'; cases h'
    | some k =>
      cases t with
      | cls c' =>
        have e' : (if P.exc c = false then P.sub c c' else none) = some k := e
        by_cases q : P.exc c = false
        · rw [if_pos q] at e'; exact ⟨(fac.kCC c c' k e').1, q⟩
        · rw [if_neg q] at e'; cases e'
      | int =>
        have e' : (if P.sub c c = some true ∧ P.exc c = false then some false else none) = some k := e
        by_cases q : P.sub c c = some true ∧ P.exc c = false
        · exact q
        · rw [if_neg q] at e'; cases e'
      | bool =>
        have e' : (if P.sub c c = some true ∧ P.exc c = false then some false else none) = some k := e
        by_cases q : P.sub c c = some true ∧ P.exc c = false
        · exact q
        · rw [if_neg q] at e'; cases e'
      | str =>
        have e' : (if P.sub c c = some true ∧ P.exc c = false then some false else none) = some k := e
        by_cases q : P.sub c c = some true ∧ P.exc c = false
        · exact q
        · rw [if_neg q] at e'; cases e'
      | tuple =>
        have e' : (if P.sub c c = some true ∧ P.exc c = false then some false else none) = some k := e
        by_cases q : P.sub c c = some true ∧ P.exc c = false
        · exact q
        · rw [if_neg q] at e'; cases e'
      | list =>
        have e' : (if P.sub c c = some true ∧ P.exc c = false then some false else none) = some k := e
        by_cases q : P.sub c c = some true ∧ P.exc c = false
        · exact q
        · rw [if_neg q] at e'; cases e'

/-- a class as it is written -/
def okTy (T : Tx) (gl : Str → Bool) : Ty → Expr → Bool
  | .cls c, .Name x _ => T.tc c && (x == T.cn c) && gl x && !(x == ("__debug__" : Str))
  | .int, .Name x _ => x == ("int" : Str) && gl x
  | .bool, .Name x _ => x == ("bool" : Str) && gl x
  | .str, .Name x _ => x == ("str" : Str) && gl x
  | .tuple, .Name x _ => x == ("tuple" : Str) && gl x
  | .list, .Name x _ => x == ("list" : Str) && gl x
  | _, _ => false
def okTys (T : Tx) (gl : Str → Bool) : List Ty → List Expr → Bool
  | [], [] => true
  | t :: ts, e :: es => okTy T gl t e && okTys T gl ts es
  | _, _ => false
theorem okTy_star {gl : Str → Bool} {t : Ty} {e : Expr} (h : okTy T gl t e = true) : notStar e = true := by
  cases e <;> first | rfl | (cases t <;> cases h)
theorem okTy_pe (fac : Fac T P X.K X.mg) {gl : Str → Bool} (hgl : ∀ x, gl x = true → Gl X x) {t : Ty} {e : Expr} (h : okTy T gl t e = true) : PE X e (tC (tyVV T t)) := by
  have blt : ∀ (n : String) (x : Str) (p : Pos), (x == Str.ofString n && gl x) = true → Str.ofString n ∈ bltN → bootBuiltins (Str.ofString n) = some (.type n) → Str.ofString n ≠ ("__name__" : Str) → (Str.ofString n == ("__debug__" : Str)) = false → PE X (.Name x p) (tC (.ty n)) := fun n x p h1 h2 h3 h4 h5 => by
    rw [Bool.and_eq_true] at h1
    cases (eq_of_beq h1.1)
    exact pe_bltn (hgl _ h1.2) (fac.blt _ h2) h3 rfl h4 h5
  cases e with
  | Name x p =>
    cases t with
    | cls c =>
      have h' : (T.tc c && (x == T.cn c) && gl x && !(x == ("__debug__" : Str))) = true := h
      simp only [Bool.and_eq_true] at h'
      obtain ⟨⟨⟨h1, h2⟩, h3⟩, h4⟩ := h'
      have e := eq_of_beq h2
      rw [e] at h3 h4 ⊢
      exact pe_glob (hgl _ h3) (fac.clG c h1) rfl (by simpa using h4)
    | int => exact blt "int" x p h (by decide +kernel) (by decide +kernel) (by decide +kernel) (by decide +kernel)
    | bool => exact blt "bool" x p h (by decide +kernel) (by decide +kernel) (by decide +kernel) (by decide +kernel)
    | str => exact blt "str" x p h (by decide +kernel) (by decide +kernel) (by decide +kernel) (by decide +kernel)
    | tuple => exact blt "tuple" x p h (by decide +kernel) (by decide +kernel) (by decide +kernel) (by decide +kernel)
    | list => exact blt "list" x p h (by decide +kernel) (by decide +kernel) (by decide +kernel) (by decide +kernel)
  | _ => cases t <;> cases h
def tCs (vs : List V) : TA := fun _ H Q => Q vs H
theorem okTys_pa (fac : Fac T P X.K X.mg) {gl : Str → Bool} (hgl : ∀ x, gl x = true → Gl X x) : ∀ {ts : List Ty} {es : List Expr}, okTys T gl ts es = true → PA X es (tCs (ts.map (tyVV T)))
  | [], [], _ => pa_nil
  | t :: ts, e :: es, h => by
    have h' : (okTy T gl t e && okTys T gl ts es) = true := h
    rw [Bool.and_eq_true] at h'
    exact pa_cons (okTy_pe fac hgl h'.1) (okTys_pa fac hgl h'.2) (starE (okTy_star h'.1))
  | [], _ :: _, h => by cases h
  | _ :: _, [], h => by cases h
variable {a b c : Expr} {pos : Pos} {a' b' c' : E}
theorem isa_paired (T : Tx) : ∀ ts : List Ty, Paired ClsV (ts.map (tyVV T)) (ts.map (tyV T))
  | [] => .nil
  | t :: ts => .cons (tyV_cls T t) (isa_paired T ts)
/-- isinstance(a, C) -/
theorem x_isa1 (ok : Cok T P C L X W) {gl : Str → Bool} (hgl : ∀ x, gl x = true → Gl X x) {t : Ty} {x : Str} {p : Pos} (hx : x = ("isinstance" : Str)) (hg : Gl X x) (ha : PE X a (TO T X.K W (evo P C a'))) (hb : okTy T gl t b = true) (hs : notStar a = true) :
    PE X (.Call (.Name x p) [a, b] [] pos) (TX T X.K W (ev P C (.op (.isa [t]) (.cons a' .nil)))) := by
  subst hx
  have hpb := okTy_pe ok.fac hgl hb
  refine ⟨fun pins s σ H Q I q => ?_⟩
  have pa : PA X [a, b] (tCons (TO T X.K W (evo P C a')) (tCons (tC (tyVV T t)) tNil)) := pa_cons ha (pa_cons hpb pa_nil (starE (okTy_star hb))) (starE hs)
  refine wpAny_Call_Name_kw (ld_blt I hg (ok.fac.blt _ (by decide +kernel)) (u := .builtin "isinstance") (by decide +kernel) ?_ (by decide +kernel) (by decide +kernel))
  refine PyProof.Rows.callWith_builtin1 (thn (pa.run pos pins s σ H (fun vs H1 => ∃ x, vs = [x, tyVV T t] ∧ OpQ T P C X.K W σ (.isa [t]) [x] H1 Q) I ?_) fun us s1 ⟨vs, H1, I1, rs, q1⟩ => ?_) (starE hs) (starA (by simp [okTy_star hb]))
  · obtain ⟨ρ, Hf, res, E, h1, h2⟩ := (TX.op q).cons
    refine ⟨ρ, Hf, res, E, h1, ?_⟩
    cases res with
    | ex x => exact h2
    | ok od ρ' => exact fun v Hf' H' st or => ⟨v, rfl, (h2 v Hf' H' st or).nil⟩
  · obtain ⟨x, e, q2⟩ := q1
    subst e
    obtain ⟨u1, u2, rfl, r1, r2⟩ := vals2 rs
    obtain ⟨ρ1, Hf1, d, C', an, E, rb, z, h, f⟩ := q2.one
    have h' : boolA (isaD P d [t]) = some an := h
    cases hk : isaD P d [t] with
    | none => rw [hk] at h'; cases h'
    | some k =>
      rw [hk] at h'
      cases h'
      have e2 := (tyV_cls T t).eq r2
      subst e2
      obtain ⟨Z, kit, hz, hne⟩ := kitD ok.fac I1 r1 rb E.sub (fun c ns xs e => by subst e; exact isaD_ins ok.fac hk (by simp))
      have hk1 : PySem.W.kitOne X.K (dTy T d) (tyV T t) = some k := by
        have e : tyD P d t = some k := by
          have h2 : (match tyD P d t with | some true => some true | some false => some false | none => none) = some k := hk
          cases e : tyD P d t with
          | none => rw [e] at h2; cases h2
          | some b => rw [e] at h2; cases b <;> exact h2
        exact tyD_kit ok.fac e
      exact PySem.W.kia_one kit I1.kIn hz hk1 hne fun tk => ⟨.bl k, H1, I1.tok tk, rfl, f.val E (.bl k)⟩
/-- isinstance(a, (C, ..)) -/
theorem x_isaT (ok : Cok T P C L X W) {gl : Str → Bool} (hgl : ∀ x, gl x = true → Gl X x) {ts : List Ty} (hts : ts ≠ []) (hl : ts.length ≤ 100) {x : Str} {p p2 : Pos} {k2 : Nat} {bs : List Expr} (hx : x = ("isinstance" : Str)) (hg : Gl X x) (ha : PE X a (TO T X.K W (evo P C a'))) (hb : okTys T gl ts bs = true) (hs : notStar a = true) :
    PE X (.Call (.Name x p) [a, .Tuple bs k2 p2] [] pos) (TX T X.K W (ev P C (.op (.isa ts) (.cons a' .nil)))) := by
  subst hx
  have hpb := okTys_pa ok.fac hgl hb
  refine ⟨fun pins s σ H Q I q => ?_⟩
  have pa : PA X [a, .Tuple bs k2 p2] (tCons (TO T X.K W (evo P C a')) (tCons (tTup (tCs (ts.map (tyVV T)))) tNil)) := pa_cons ha (pa_cons (pe_tup hpb) pa_nil rfl) (starE hs)
  refine wpAny_Call_Name_kw (ld_blt I hg (ok.fac.blt _ (by decide +kernel)) (u := .builtin "isinstance") (by decide +kernel) ?_ (by decide +kernel) (by decide +kernel))
  refine PyProof.Rows.callWith_builtin1 (thn (pa.run pos pins s σ H (fun vs H2 => ∃ x tp H1, vs = [x, .ref tp] ∧ H1 tp = none ∧ H2 = upd H1 tp (.tup (ts.map (tyVV T))) ∧ OpQ T P C X.K W σ (.isa ts) [x] H1 Q) I ?_) fun us s1 ⟨vs, H1, I1, rs, q1⟩ => ?_) (starE hs) (starA (by simp [notStar]))
  · obtain ⟨ρ, Hf, res, E, h1, h2⟩ := (TX.op q).cons
    refine ⟨ρ, Hf, res, E, h1, ?_⟩
    cases res with
    | ex x => exact h2
    | ok od ρ' =>
      intro v Hf' H' st or
      refine ⟨?_, fun tp htp => ⟨v, tp, H', rfl, htp, rfl, (h2 v Hf' H' st or).nil⟩⟩
      rw [List.length_map, sizeLine_eq]
      omega
  · obtain ⟨x, tp, H0, e, htp, eH, q2⟩ := q1
    subst e
    obtain ⟨u1, u2, rfl, r1, r2⟩ := vals2 rs
    obtain ⟨ρ1, Hf1, d, C', an, E, rb, z, h, f⟩ := q2.one
    have h' : boolA (isaD P d ts) = some an := h
    cases hk : isaD P d ts with
    | none => rw [hk] at h'; cases h'
    | some k =>
      rw [hk] at h'
      cases h'
      have gr : Gr Hf1 H0 Hf1 H1 := by rw [eH]; exact .loose E.sub htp
      have rb' : RB (T.gm X.K) Hf1 H1 x d := by
        cases d with
        | lst xs => obtain ⟨a, vs, e, g1, g2⟩ := rb; exact ⟨a, vs, e, gr.grow _ _ g1, g2⟩
        | ins c ns xs => obtain ⟨a, dx, vs, e, g1, g2, g3⟩ := rb; exact ⟨a, dx, vs, e, gr.grow _ _ g1, g2, g3⟩
        | _ => exact rb
      obtain ⟨Z, kit, hz, hne⟩ := kitD ok.fac I1 r1 rb' gr.sub (fun c ns xs e => by subst e; exact isaD_ins ok.fac hk hts)
      cases (show u2 = Value.ref tp from r2)
      have hT : H1 tp = some (.tup (ts.map (tyVV T))) := by rw [eH]; exact upd_same
      obtain ⟨_, its, rv, o, h1, h2, n, h3⟩ := (show ObjOk X.prog X.w H1 s1.heap tp (.tup (ts.map (tyVV T))) from I1.hok tp _ hT)
      have e3 := ClsV.all (isa_paired T ts) rv
      subst e3
      obtain ⟨oc, od, dt, sl⟩ := o
      simp only at h2 h3
      subst h2 h3
      exact PySem.W.kia_tup kit I1.kIn hz h1 (isaD_kit ok.fac hk) hne fun tk => ⟨.bl k, H1, I1.tok tk, rfl, f _ _ _ gr (.bl k) fun _ z => by cases z⟩
end
end Ev
/-! Ev 11: calls by operands. -/
namespace Ev
open PySem PySem.Spec L2

section
variable {G : Gm} {Hf Hg : Hp}
mutual
theorem Rep.noLst (h : ∀ a o, Hf a = some o → (∀ xs, o ≠ .lst xs) → Hg a = some o) : ∀ {v : V} {d : D}, Rep G Hf v d → noLst d = true → Rep G Hg v d
  | _, _, .non, _ => .non
  | _, _, .bl b, _ => .bl b
  | _, _, .int i, _ => .int i
  | _, _, .str x, _ => .str x
  | _, _, .tup hs r, n => .tup (by
      rcases hs with (hs | ⟨o, hs⟩) | hs
      · exact .inl (.inl (h _ _ hs fun _ z => by cases z))
      · exact .inl (.inr ⟨o, h _ _ hs fun _ z => by cases z⟩)
      · exact .inr hs) (Reps.noLst h r n)
  | _, _, .lst _ _, n => by cases n
  | _, _, .frz _ _, n => by cases n
  | _, _, .ins hs r l, n => .ins (h _ _ hs fun _ z => by cases z) (Reps.noLst h r n) l
theorem Reps.noLst (h : ∀ a o, Hf a = some o → (∀ xs, o ≠ .lst xs) → Hg a = some o) : ∀ {vs : List V} {ds : List D}, Reps G Hf vs ds → noLsts ds = true → Reps G Hg vs ds
  | _, _, .nil, _ => .nil
  | _, _, .cons a r, n => by
    rw [noLsts, Bool.and_eq_true] at n
    exact .cons (Rep.noLst h a n.1) (Reps.noLst h r n.2)
end
theorem ORs.get {σ : St} : ∀ {vs : List V} {ods : List OD} {j : Nat} {o : OD}, ORs G σ Hf vs ods → ods[j]? = some o → ∃ v, vs[j]? = some v ∧ OR G σ Hf v o
  | _, _, _, _, .nil, h => by simp at h
  | _, _, 0, _, .cons a r, h => by simp at h; subst h; exact ⟨_, rfl, a⟩
  | _, _, j + 1, o, .cons a r, h => by
    obtain ⟨v, h1, h2⟩ := ORs.get (j := j) (o := o) r (by simpa using h)
    exact ⟨v, by simpa using h1, h2⟩
theorem ORs.length {σ : St} : ∀ {vs : List V} {ods : List OD}, ORs G σ Hf vs ods → vs.length = ods.length
  | _, _, .nil => rfl
  | _, _, .cons _ r => congrArg Nat.succ r.length
end
theorem args_get {ρ : EnvD} : ∀ {ods : List OD} {as : List EV} {j : Nat} {e : EV}, args ρ ods = some as → as[j]? = some e → ∃ o, ods[j]? = some o ∧ arg ρ o = some e
  | [], as, j, e, h, q => by cases h; simp at q
  | o :: os, as, j, e, h, q => by
    unfold args at h
    cases h1 : arg ρ o with
    | none => rw [h1] at h; cases h
    | some d =>
      rw [h1] at h
      cases h2 : args ρ os with
      | none => rw [h2] at h; cases h
      | some ds =>
        rw [h2] at h
        cases h
        cases j with
        | zero => simp at q; subst q; exact ⟨o, rfl, h1⟩
        | succ j =>
          obtain ⟨o', g1, g2⟩ := args_get (j := j) (e := e) h2 (by simpa using q)
          exact ⟨o', by simpa using g1, g2⟩
theorem args_of {ρ : EnvD} : ∀ {ods : List OD} {as : List EV} {j : Nat} {o : OD}, args ρ ods = some as → ods[j]? = some o → ∃ e, as[j]? = some e ∧ arg ρ o = some e
  | [], as, j, o, h, q => by simp at q
  | o :: os, as, j, o', h, q => by
    unfold args at h
    cases h1 : arg ρ o with
    | none => rw [h1] at h; cases h
    | some d =>
      rw [h1] at h
      cases h2 : args ρ os with
      | none => rw [h2] at h; cases h
      | some ds =>
        rw [h2] at h
        cases h
        cases j with
        | zero => simp at q; subst q; exact ⟨d, rfl, h1⟩
        | succ j =>
          obtain ⟨e, g1, g2⟩ := args_of (j := j) (o := o') h2 (by simpa using q)
          exact ⟨e, by simpa using g1, g2⟩
theorem args_length {ρ : EnvD} : ∀ {ods : List OD} {as : List EV}, args ρ ods = some as → as.length = ods.length
  | [], as, h => by cases h; rfl
  | o :: os, as, h => by
    unfold args at h
    cases h1 : arg ρ o with
    | none => rw [h1] at h; cases h
    | some d =>
      rw [h1] at h
      cases h2 : args ρ os with
      | none => rw [h2] at h; cases h
      | some ds =>
        rw [h2] at h
        cases h
        exact congrArg Nat.succ (args_length h2)
theorem slotsAt_get {ods : List OD} : ∀ {mu is : List Nat} {p i : Nat}, slotsAt ods mu = some is → is[p]? = some i → ∃ j, mu[p]? = some j ∧ ods[j]? = some (.m i)
  | [], is, p, i, h, q => by cases h; simp at q
  | j :: js, is, p, i, h, q => by
    unfold slotsAt at h
    split at h
    · rename_i k hk
      cases h2 : slotsAt ods js with
      | none => rw [h2] at h; cases h
      | some l =>
        rw [h2] at h
        cases h
        cases p with
        | zero => simp at q; subst q; exact ⟨j, rfl, hk⟩
        | succ p =>
          obtain ⟨j', g1, g2⟩ := slotsAt_get (p := p) (i := i) h2 (by simpa using q)
          exact ⟨j', by simpa using g1, g2⟩
    · cases h
theorem slotsAt_mem {ods : List OD} : ∀ {mu is : List Nat} {j i : Nat}, slotsAt ods mu = some is → j ∈ mu → ods[j]? = some (.m i) → ∃ p : Nat, mu[p]? = some j ∧ is[p]? = some i
  | j' :: js, is, j, i, h, hm, q => by
    unfold slotsAt at h
    split at h
    · rename_i k hk
      cases h2 : slotsAt ods js with
      | none => rw [h2] at h; cases h
      | some l =>
        rw [h2] at h
        cases h
        rcases List.mem_cons.mp hm with e | hm
        · subst e
          rw [hk] at q
          cases q
          exact ⟨0, rfl, rfl⟩
        · obtain ⟨p, g1, g2⟩ := slotsAt_mem h2 hm q
          exact ⟨p + 1, by simpa using g1, by simpa using g2⟩
    · cases h
theorem okM_get {mu : List Nat} : ∀ {ods : List OD} {k j : Nat} {o : OD}, okM mu k ods = true → ods[j]? = some o → o.isM = mu.contains (k + j)
  | [], k, j, o, h, q => by simp at q
  | o :: os, k, j, o', h, q => by
    unfold okM at h
    rw [Bool.and_eq_true] at h
    cases j with
    | zero => simp at q; subst q; exact eq_of_beq h.1
    | succ j =>
      have := okM_get (j := j) (o := o') h.2 (by simpa using q)
      rw [this]
      congr 1
      omega
theorem nodupB_get : ∀ {is : List Nat} {p q i : Nat}, nodupB is = true → is[p]? = some i → is[q]? = some i → p = q
  | [], p, q, i, h, h1, _ => by simp at h1
  | a :: is, p, q, i, h, h1, h2 => by
    unfold nodupB at h
    rw [Bool.and_eq_true] at h
    have hm : ∀ {r : Nat}, is[r]? = some a → False := fun {r} hr => by
      have : a ∈ is := List.mem_of_getElem? hr
      have h3 := h.1
      simp [this] at h3
    cases p with
    | zero =>
      cases q with
      | zero => rfl
      | succ q => simp at h1 h2; subst h1; exact (hm h2).elim
    | succ p =>
      cases q with
      | zero => simp at h1 h2; subst h2; exact (hm h1).elim
      | succ q => exact congrArg Nat.succ (nodupB_get h.2 (by simpa using h1) (by simpa using h2))
/-- the slots, behind -/
theorem putM_get : ∀ {is : List Nat} {fin : List EV} {ρ ρ' : EnvD} {k : Nat} {e : EV}, putM is fin ρ = some ρ' → nodupB is = true → ρ'[k]? = some (some e) → (k ∉ is ∧ ρ[k]? = some (some e)) ∨ ∃ p : Nat, is[p]? = some k ∧ fin[p]? = some e ∧ e.flat = true
  | [], [], ρ, ρ', k, e, h, _, q => by cases h; exact .inl ⟨by simp, q⟩
  | [], _ :: _, ρ, ρ', k, e, h, _, q => by cases h
  | _ :: _, [], ρ, ρ', k, e, h, _, q => by cases h
  | i :: is, f :: fs, ρ, ρ', k, e, h, hn, q => by
    unfold putM at h
    unfold nodupB at hn
    rw [Bool.and_eq_true] at hn
    by_cases o : f.flat = true
    · rw [if_pos o] at h
      rcases putM_get h hn.2 q with ⟨h1, h2⟩ | ⟨p, h1, h2, h3⟩
      · by_cases z : i = k
        · subst z
          rw [List.getElem?_set] at h2
          rw [if_pos rfl] at h2
          split at h2
          · cases h2; exact .inr ⟨0, rfl, rfl, o⟩
          · cases h2
        · rw [List.getElem?_set_ne z] at h2
          exact .inl ⟨by simp [h1]; exact fun y => z y.symm, h2⟩
      · exact .inr ⟨p + 1, by simpa using h1, by simpa using h2, h3⟩
    · rw [if_neg o] at h; cases h
theorem Fins.get {G : Gm} {Hf H : Hp} {vs : List V} : ∀ {mu : List Nat} {fin : List EV} {p j : Nat} {e : EV}, Fins G Hf H vs mu fin → mu[p]? = some j → fin[p]? = some e → ∃ v, vs[j]? = some v ∧ SR G Hf H v e
  | _, _, _, _, _, .nil, h, _ => by simp at h
  | _, _, 0, _, _, .cons a s r, h1, h2 => by simp at h1 h2; subst h1; subst h2; exact ⟨_, a, s⟩
  | _, _, p + 1, j, e, .cons a s r, h1, h2 => Fins.get (p := p) (j := j) (e := e) r (by simpa using h1) (by simpa using h2)
theorem arg_m {ρ : EnvD} {i : Nat} {e : EV} (h : arg ρ (.m i) = some e) : get ρ i = some e ∧ e.flat = true := by
  have h' : (match get ρ i with | some e => if e.flat then some e else none | none => none) = some e := h
  cases g : get ρ i with
  | none => rw [g] at h'; cases h'
  | some e' =>
    rw [g] at h'
    by_cases o : e'.flat = true
    · have h2 : (if e'.flat then some e' else none) = some e := h'
      rw [if_pos o] at h2; cases h2; exact ⟨rfl, o⟩
    · have h2 : (if e'.flat then some e' else none) = some e := h'
      rw [if_neg o] at h2; cases h2
theorem Has.flat {H : Hp} {e : EV} {v : V} {a : Addr} (f : e.flat = true) : Has H e v a ↔ v = .ref a := by
  cases e <;> first | exact Iff.rfl | cases f
theorem flat_own {e : EV} (f : e.flat = true) : e.own = true := by cases e <;> first | rfl | cases f
theorem arg_own {ρ : EnvD} {o : OD} {e : EV} (h : arg ρ o = some e) (w : e.own = true) : ∃ i, o = .m i := by
  cases o with
  | m i => exact ⟨i, rfl⟩
  | d x => cases h; cases w
  | b i =>
    have h' : (match get ρ i with | some (.fr d) => some (EV.fr d) | some (.ow xs) => some (.fr (.lst xs)) | _ => none) = some e := h
    cases g : get ρ i with
    | none => rw [g] at h'; cases h'
    | some e' =>
      rw [g] at h'
      cases e' <;> cases h' <;> cases w

section
open Classical
variable {T : Tx} {P : Prog} {C : Orc} {K : PySem.W.Frag} {W : WX} {σ : St} {ρ : EnvD} {Hf H : Hp} {vs : List V} {ods : List OD} {as : List EV}
/-- what is borrowed -/
def Bor (σ : St) (ρ : EnvD) (ods : List OD) (a : Addr) : Prop := ∃ i xs, OD.b i ∈ ods ∧ get ρ i = some (.ow xs) ∧ σ[i]? = some (some (.ref a))
noncomputable def hfC (σ : St) (ρ : EnvD) (ods : List OD) (Hf H : Hp) : Hp := fun a => if Bor σ ρ ods a then H a else Hf a
noncomputable def hfD (σ : St) (ρ : EnvD) (ods : List OD) (Hf : Hp) : Hp := fun a => if Bor σ ρ ods a then none else Hf a
theorem Bor.own {G : Gm} (E : ER G σ ρ Hf H) {a : Addr} (h : Bor σ ρ ods a) : Hf a = none ∧ ∃ us, H a = some (.lst us) := by
  obtain ⟨i, xs, _, h2, h3⟩ := h
  obtain ⟨v, e1, b, us, e2, h4, h5, _⟩ := E.slot i _ (get_some h2)
  rw [h3] at e1
  cases e1
  cases e2
  exact ⟨h4, us, h5⟩
theorem noBor (h : ods.any OD.isB = false) (a : Addr) : ¬ Bor σ ρ ods a := fun ⟨i, xs, h1, _⟩ => by
  rw [List.any_eq_false] at h
  exact h _ h1 rfl
/-- the callee's slots -/
theorem callee_er {G : Gm} {mu is : List Nat} (E : ER G σ ρ Hf H) (ors : ORs G σ Hf vs ods) (ha : args ρ ods = some as) (hs : slotsAt ods mu = some is) (hm : okM mu 0 ods = true) (hn : nodupB is = true) (hb : is = [] ∨ ods.any OD.isB = false) :
    ER G (vs.map some) (as.map some) (hfC σ ρ ods Hf H) H := by
  have ext : Same Hf (hfC σ ρ ods Hf H) := fun a o e => by
    unfold hfC
    by_cases q : Bor σ ρ ods a
    · rw [(q.own E).1] at e; cases e
    · rw [if_neg q]; exact e
  have look : ∀ {j : Nat} {e : EV}, (as.map some)[j]? = some (some e) → ∃ o v, ods[j]? = some o ∧ arg ρ o = some e ∧ vs[j]? = some v ∧ OR G σ Hf v o := fun {j e} h => by
    rw [List.getElem?_map] at h
    cases q : as[j]? with
    | none => rw [q] at h; cases h
    | some e' =>
      rw [q] at h
      cases h
      obtain ⟨o, h1, h2⟩ := args_get ha q
      obtain ⟨v, h3, h4⟩ := ors.get h1
      exact ⟨o, v, h1, h2, h3, h4⟩
  have mM : ∀ {j i : Nat}, ods[j]? = some (.m i) → j ∈ mu := fun {j i} h => by
    have := okM_get hm h
    rw [Nat.zero_add] at this
    have h2 : mu.contains j = true := this.symm
    simpa using h2
  refine ⟨fun a o e => ?_, fun j e h => ?_, fun j k e e' v w a h1 h2 h5 h6 h3 h4 => ?_⟩
  · unfold hfC at e
    by_cases q : Bor σ ρ ods a
    · rw [if_pos q] at e; exact e
    · rw [if_neg q] at e; exact E.sub a o e
  · obtain ⟨o, v, g1, g2, g3, g4⟩ := look h
    refine ⟨v, by rw [List.getElem?_map, g3]; rfl, ?_⟩
    cases o with
    | d x => cases g2; exact Rep.mono ext g4
    | b i =>
      have g2' : (match get ρ i with | some (.fr d) => some (EV.fr d) | some (.ow xs) => some (.fr (.lst xs)) | _ => none) = some e := g2
      cases gi : get ρ i with
      | none => rw [gi] at g2'; cases g2'
      | some e' =>
        rw [gi] at g2'
        obtain ⟨w, q1, q2⟩ := E.slot i _ (get_some gi)
        have g4' : σ[i]? = some (some v) := g4
        rw [g4'] at q1
        cases q1
        cases e' with
        | fr d => cases g2'; exact Rep.mono ext q2
        | ow xs =>
          cases g2'
          obtain ⟨a, us, e1, e2, e3, e4⟩ := q2
          subst e1
          refine .lst ?_ (e4.mono ext)
          unfold hfC
          rw [if_pos ⟨i, xs, List.mem_of_getElem? g1, gi, g4'⟩]
          exact e3
        | oi c ns xs => cases g2'
        | tb xss => cases g2'
    | m i =>
      obtain ⟨q1, q2⟩ := arg_m g2
      have hne : ods.any OD.isB = false := by
        rcases hb with hb | hb
        · obtain ⟨p, _, z⟩ := slotsAt_mem hs (mM g1) g1
          rw [hb] at z; simp at z
        · exact hb
      have hc : hfC σ ρ ods Hf H = Hf := funext fun a => if_neg (noBor hne a)
      rw [hc]
      obtain ⟨w, z1, z2⟩ := E.slot i _ (get_some q1)
      have g4' : σ[i]? = some (some v) := g4
      rw [g4'] at z1
      cases z1
      exact z2
  · obtain ⟨o, v, g1, g2, g3, g4⟩ := look h1
    obtain ⟨o', v', k1, k2, k3, k4⟩ := look h2
    obtain ⟨i, rfl⟩ := arg_own g2 h3.own
    obtain ⟨i', rfl⟩ := arg_own k2 h4.own
    rw [List.getElem?_map, g3] at h5
    rw [List.getElem?_map, k3] at h6
    cases h5
    cases h6
    have e1 : i = i' := E.apart i i' _ _ _ _ a (get_some (arg_m g2).1) (get_some (arg_m k2).1) g4 k4 h3 h4
    subst e1
    obtain ⟨p, p1, p2⟩ := slotsAt_mem hs (mM g1) g1
    obtain ⟨q, q1, q2⟩ := slotsAt_mem hs (mM k1) k1
    have := nodupB_get hn p2 q2
    subst this
    rw [p1] at q1
    cases q1
    rfl
theorem callee_own {G : Gm} {mu is : List Nat} (ors : ORs G σ Hf vs ods) (ha : args ρ ods = some as) (hs : slotsAt ods mu = some is) (hm : okM mu 0 ods = true) {a : Addr} (h : Own (vs.map some) (as.map some) H a) : ∃ (p i j : Nat) (e : EV), mu[p]? = some j ∧ is[p]? = some i ∧ vs[j]? = some (.ref a) ∧ ρ[i]? = some (some e) ∧ Has H e (.ref a) a ∧ σ[i]? = some (some (.ref a)) := by
  obtain ⟨j, e, v0, h1, h3, h2⟩ := h
  rw [List.getElem?_map] at h1 h3
  cases q : as[j]? with
  | none => rw [q] at h1; cases h1
  | some e' =>
    rw [q] at h1
    cases h1
    obtain ⟨o, g1, g2⟩ := args_get ha q
    obtain ⟨i, rfl⟩ := arg_own g2 h2.own
    obtain ⟨v, g3, g4⟩ := ors.get g1
    rw [g3] at h3
    cases h3
    have hv := (Has.flat (arg_m g2).2).mp h2
    subst hv
    have hj : j ∈ mu := by
      have := okM_get hm g1
      rw [Nat.zero_add] at this
      have h2 : mu.contains j = true := this.symm
      simpa using h2
    obtain ⟨p, p1, p2⟩ := slotsAt_mem hs hj g1
    exact ⟨p, i, j, e, p1, p2, g3, get_some (arg_m g2).1, h2, g4⟩
/-- a slot that was not handed -/
theorem callee_keep {G : Gm} {mu is : List Nat} {Hf' H' : Hp} (E : ER G σ ρ Hf H) (ors : ORs G σ Hf vs ods) (ha : args ρ ods = some as) (hs : slotsAt ods mu = some is) (hm : okM mu 0 ods = true) (b : Back G vs as (hfC σ ρ ods Hf H) H Hf' H')
    {k : Nat} {e : EV} {v : V} (h1 : k ∉ is) (h2 : ρ[k]? = some (some e)) (g1 : σ[k]? = some (some v)) (g2 : SR G Hf H v e) : ∀ a, Has H e v a → hfD σ ρ ods Hf' a = none ∧ H' a = H a := fun a ho => by
  have subC : ∀ {a}, hfC σ ρ ods Hf H a ≠ none → ¬ Bor σ ρ ods a → Hf a ≠ none := fun {a} h n => by
    unfold hfC at h; rw [if_neg n] at h; exact h
  obtain ⟨h4, ob, h5⟩ := g2.has ho
  have no : ¬ Own (vs.map some) (as.map some) H a := fun z => by
    obtain ⟨q, i, j, e0, _, z2, _, z4, z5, z6⟩ := callee_own ors ha hs hm z
    have := E.apart k i _ _ _ _ a h2 z4 g1 z6 ho z5
    rw [this] at h1
    exact h1 (List.mem_of_getElem? z2)
  refine ⟨?_, by rw [h5]; exact b.frame a ob h5 no⟩
  unfold hfD
  by_cases q : Bor σ ρ ods a
  · rw [if_pos q]
  · rw [if_neg q]
    cases z : Hf' a with
    | none => rfl
    | some o =>
      rcases b.acc a (by rw [z]; exact fun y => by cases y) with y | y | y
      · exact absurd y no
      · exact absurd h4 (subC y q)
      · rw [h5] at y; cases y
/-- behind a call -/
theorem callee_stp {G : Gm} {mu is : List Nat} {Hf' H' : Hp} {fin : List EV} {ρ' : EnvD} (E : ER G σ ρ Hf H) (ors : ORs G σ Hf vs ods) (ha : args ρ ods = some as) (hs : slotsAt ods mu = some is) (hm : okM mu 0 ods = true) (hn : nodupB is = true) (hb : is = [] ∨ ods.any OD.isB = false)
    (b : Back G vs as (hfC σ ρ ods Hf H) H Hf' H') (fi : Fins G Hf' H' vs mu fin) (hp : putM is fin ρ = some ρ') : Stp G σ ρ Hf H σ ρ' (hfD σ ρ ods Hf') H' := by
  have own : ∀ {a}, Own (vs.map some) (as.map some) H a → Own σ ρ H a := fun {a} h => by
    obtain ⟨p, i, j, e, _, _, _, h4, h5, h6⟩ := callee_own ors ha hs hm h
    exact ⟨i, e, _, h4, h6, h5⟩
  have extC : Same Hf (hfC σ ρ ods Hf H) := fun a o e => by
    unfold hfC
    by_cases q : Bor σ ρ ods a
    · rw [(q.own E).1] at e; cases e
    · rw [if_neg q]; exact e
  have ext : Same Hf (hfD σ ρ ods Hf') := fun a o e => by
    unfold hfD
    by_cases q : Bor σ ρ ods a
    · rw [(q.own E).1] at e; cases e
    · rw [if_neg q]; exact b.ext a o (extC a o e)
  have hD : is ≠ [] → hfD σ ρ ods Hf' = Hf' := fun hi => by
    rcases hb with hb | hb
    · exact absurd hb hi
    · exact funext fun a => if_neg (noBor hb a)
  have subC : ∀ {a}, hfC σ ρ ods Hf H a ≠ none → ¬ Bor σ ρ ods a → Hf a ≠ none := fun {a} h n => by
    unfold hfC at h; rw [if_neg n] at h; exact h
  have keep : ∀ {k : Nat} {e : EV} {v : V}, k ∉ is → ρ[k]? = some (some e) → σ[k]? = some (some v) → SR G Hf H v e → ∀ a, Has H e v a → hfD σ ρ ods Hf' a = none ∧ H' a = H a := fun {k e v} h1 h2 g1 g2 => callee_keep E ors ha hs hm b h1 h2 g1 g2
  have back : ∀ {k : Nat} {e : EV} {v : V} {a : Addr}, ρ'[k]? = some (some e) → σ[k]? = some (some v) → Has H' e v a → ∃ e0, ρ[k]? = some (some e0) ∧ Has H e0 v a := fun {k e v a} h hv w => by
    rcases putM_get hp hn h with ⟨h1, h2⟩ | ⟨p, h1, _, hf⟩
    · have sr := E.sr h2 hv
      exact ⟨e, h2, (sr.hasIff fun b q => (keep h1 h2 hv sr b q).2).mp w⟩
    · obtain ⟨j, g1, g2⟩ := slotsAt_get hs h1
      obtain ⟨e0, z1, z2⟩ := args_of ha g2
      exact ⟨e0, get_some (arg_m z2).1, (Has.flat (arg_m z2).2).mpr ((Has.flat hf).mp w)⟩
  have ownB : ∀ {a}, Own σ ρ' H' a → Own σ ρ H a := fun {a} ⟨k, e, v, h1, h3, h2⟩ => by
    obtain ⟨e0, g1, g2⟩ := back h1 h3 h2
    exact ⟨k, e0, v, g1, h3, g2⟩
  refine ⟨⟨fun a o e => ?_, fun k e h => ?_, fun k l e e' v w a h1 h2 h5 h6 h3 h4 => ?_⟩, ext, fun a o h n => b.frame a o h fun z => n (own z), fun a h => ?_⟩
  · unfold hfD at e
    by_cases q : Bor σ ρ ods a
    · rw [if_pos q] at e; cases e
    · rw [if_neg q] at e; exact b.sub a o e
  · rcases putM_get hp hn h with ⟨h1, h2⟩ | ⟨p, h1, h2, h3⟩
    · obtain ⟨v, g1, g2⟩ := E.slot k e h2
      refine ⟨v, g1, ?_⟩
      exact g2.move (fun b q => (keep h1 h2 g1 g2 b q).2) (fun b q => (keep h1 h2 g1 g2 b q).1) ext
    · obtain ⟨j, g1, g2⟩ := slotsAt_get hs h1
      obtain ⟨v, g3, g4⟩ := fi.get g1 h2
      obtain ⟨v', g5, g6⟩ := ors.get g2
      rw [g3] at g5
      cases g5
      refine ⟨v, g6, ?_⟩
      rw [hD fun z => by rw [z] at h1; simp at h1]
      exact g4
  · obtain ⟨e0, g1, g2⟩ := back h1 h5 h3
    obtain ⟨e1, k1, k2⟩ := back h2 h6 h4
    exact E.apart k l _ _ _ _ a g1 k1 h5 h6 g2 k2
  · rcases h with h | h
    · exact .inl (ownB h)
    · unfold hfD at h
      by_cases q : Bor σ ρ ods a
      · rw [if_pos q] at h; exact absurd rfl h
      · rw [if_neg q] at h
        rcases b.acc a h with z | z | z
        · exact .inl (own z)
        · exact .inr (.inl (subC z q))
        · exact .inr (.inr z)
/-- a call by operands, by values -/
theorem apply_q {f : Nat} {Q : VK} {res : R EV} (E : ER (T.gm K) σ ρ Hf H) (ors : ORs (T.gm K) σ Hf vs ods) (h : apply P C f ods ρ = some res) (p : Post T K W σ ρ Hf H Q res) : CallQ T P C K W σ f vs H Q := by
  unfold apply at h
  cases hF : P.fn f with
  | none => rw [hF] at h; cases h
  | some F =>
  rw [hF] at h
  dsimp only at h
  cases hs : slotsAt ods F.mu with
  | none => rw [hs] at h; cases h
  | some is =>
  rw [hs] at h
  dsimp only at h
  by_cases c : (okM F.mu 0 ods && nodupB is && (is.isEmpty || !ods.any OD.isB)) = true
  · rw [if_pos c] at h
    simp only [Bool.and_eq_true] at c
    obtain ⟨⟨c1, c2⟩, c3⟩ := c
    have hb : is = [] ∨ ods.any OD.isB = false := by
      rw [Bool.or_eq_true] at c3
      rcases c3 with c3 | c3
      · exact .inl (List.isEmpty_iff.mp c3)
      · exact .inr (by simpa using c3)
    cases ha : args ρ ods with
    | none => rw [ha] at h; cases h
    | some as =>
    rw [ha] at h
    dsimp only at h
    have EC := callee_er E ors ha hs c1 c2 hb
    have ln : as.length = vs.length := by rw [args_length ha, ors.length]
    cases hc : C f as with
    | none => rw [hc] at h; cases h
    | some r =>
    rw [hc] at h
    refine ⟨as, _, r, ln, EC, hc, ?_⟩
    cases r with
    | exc x =>
      cases h
      intro cls d Hf' H' b xr
      have own : ∀ {a}, Own (vs.map some) (as.map some) H a → Own σ ρ H a := fun {a} z => by
        obtain ⟨p, i, j, e, _, _, _, h4, h5, h6⟩ := callee_own ors ha hs c1 z
        exact ⟨i, e, _, h4, h6, h5⟩
      refine p cls d (hfD σ ρ ods Hf') H' ⟨.nil fun a o e => ?_, fun a o e => ?_, fun a o e n => b.frame a o e fun z => n (own z), fun a n => ?_⟩ xr
      · unfold hfD at e
        by_cases q : Bor σ ρ ods a
        · rw [if_pos q] at e; cases e
        · rw [if_neg q] at e; exact b.sub a o e
      · unfold hfD
        by_cases q : Bor σ ρ ods a
        · rw [(q.own E).1] at e; cases e
        · rw [if_neg q]
          refine b.ext a o ?_
          unfold hfC
          rw [if_neg q]; exact e
      · rcases n with n | n
        · exact absurd n Own.nil
        · unfold hfD at n
          by_cases q : Bor σ ρ ods a
          · rw [if_pos q] at n; exact absurd rfl n
          · rw [if_neg q] at n
            rcases b.acc a n with z | z | z
            · exact .inl (own z)
            · refine .inr (.inl ?_)
              unfold hfC at z
              rw [if_neg q] at z; exact z
            · exact .inr (.inr z)
    | ret e fin =>
      dsimp only at h
      by_cases c4 : (ods.any OD.isB && !e.plain) = true
      · rw [if_pos c4] at h; cases h
      · rw [if_neg c4] at h
        cases hp : putM is fin ρ with
        | none => rw [hp] at h; cases h
        | some ρ' =>
          rw [hp] at h
          cases h
          intro v Hf' H' F' hF' b fi sr mi
          rw [hF] at hF'
          cases hF'
          have st := callee_stp E ors ha hs c1 c2 hb b fi hp
          refine p v _ H' st ?_ fun a h1 => ?_
          · by_cases hB : ods.any OD.isB = true
            · have hpl : e.plain = true := by
                cases q : e.plain with
                | true => rfl
                | false => exact absurd (by rw [hB, q]; rfl) c4
              cases e with
              | fr d =>
                refine Rep.noLst (fun a o e1 e2 => ?_) sr hpl
                unfold hfD
                by_cases q : Bor σ ρ ods a
                · obtain ⟨_, us, e3⟩ := q.own E
                  have : hfC σ ρ ods Hf H a = some (.lst us) := by unfold hfC; rw [if_pos q]; exact e3
                  have := b.ext a _ this
                  rw [e1] at this
                  cases this
                  exact absurd rfl (e2 us)
                · rw [if_neg q]; exact e1
              | _ => cases hpl
            · have hB' : ods.any OD.isB = false := by simpa using hB
              rw [show hfD σ ρ ods Hf' = Hf' from funext fun a => if_neg (noBor hB' a)]
              exact sr
          · obtain ⟨g1, g2⟩ := mi a h1
            have own : Own (vs.map some) (as.map some) H a → Own σ ρ H a := fun z => by
              obtain ⟨p, i, j, e, _, _, _, h4, h5, h6⟩ := callee_own ors ha hs c1 z
              exact ⟨i, e, _, h4, h6, h5⟩
            refine ⟨g1.elim (fun z => .inl (own z)) .inr, fun ⟨k, e', w0, z1, z3, z2⟩ => ?_⟩
            rcases putM_get hp c2 z1 with ⟨y1, y2⟩ | ⟨q, y1, y2, y3⟩
            · have sr0 := E.sr y2 z3
              have z2' : Has H e' w0 a := (sr0.hasIff fun c q => (callee_keep E ors ha hs c1 b y1 y2 z3 sr0 c q).2).mp z2
              rcases g1 with g1 | g1
              · obtain ⟨q, i, j, e0, w1, w2, w3, w4, w5, w6⟩ := callee_own ors ha hs c1 g1
                have := E.apart k i _ _ _ _ a y2 w4 z3 w6 z2' w5
                rw [this] at y1
                exact y1 (List.mem_of_getElem? w2)
              · obtain ⟨ob, w⟩ := (sr0.has z2').2
                rw [g1] at w; cases w
            · obtain ⟨j, w1, w2⟩ := slotsAt_get hs y1
              obtain ⟨v', w3, w4⟩ := ors.get w2
              have w4' : σ[k]? = some (some v') := w4
              rw [z3] at w4'
              cases w4'
              have := (Has.flat y3).mp z2
              subst this
              exact g2 j (List.mem_of_getElem? w1) w3
  · rw [if_neg c] at h; cases h
end
end Ev
/-! Ev 12: calls, methods, new instances, chains. -/
namespace Ev
open PySem PySem.Spec L2

section
variable {T : Tx} {P : Prog} {C : Orc} {L : Nat} {X : Cx} {W : WX} {pins : List (Addr × Obj)} {σ : St} {H Hf : Hp} {s : Shared} {Q : VK} {ρ : EnvD}
theorem make_get {c : Nat} {ods : List OD} {res : R EV} (h : make P C c ods ρ = some res) : ods.all OD.isD = true ∧ ∃ ds f F r, views ρ ods = some ds ∧ P.meth c mInit = some f ∧ P.fn f = some F ∧ F.mu = [0] ∧ C f (.oi c [] [] :: ds.map .fr) = some r ∧
    ((∃ ns xs, r = .ret (.fr .non) [.oi c ns xs] ∧ res = .ok (.fr (.ins c ns xs)) ρ) ∨ ∃ x, r = .exc x ∧ res = .ex x) := by
  unfold make at h
  split at h
  · rename_i hall
    split at h
    · cases h
    · rename_i ds hv
      split at h
      · cases h
      · rename_i f hm
        split at h
        · cases h
        · rename_i F hF
          split at h
          · rename_i hmu
            refine ⟨hall, ds, f, F, ?_⟩
            split at h
            · rename_i c' ns xs hc
              split at h
              · rename_i e
                subst e
                cases h
                exact ⟨_, hv, hm, hF, hmu, hc, .inl ⟨ns, xs, rfl, rfl⟩⟩
              · cases h
            · rename_i x hc
              cases h
              exact ⟨_, hv, hm, hF, hmu, hc, .inr ⟨x, rfl, rfl⟩⟩
            · cases h
          · cases h
  · cases h
/-- a new instance and its __init__, by values -/
theorem run_new (ok : Cok T P C L X W) (mo : MuOk P) {c : Nat} {ods : List OD} {us : List Value} {vs : List V} {res : R EV} (I : Inv X pins σ H s) (rv : Vals vs us) (E : ER (T.gm X.K) σ ρ Hf H) (ors : ORs (T.gm X.K) σ Hf vs ods)
    (h : make P C c ods ρ = some res) (p : Post T X.K W σ ρ Hf H Q res) : wpAny (model X.prog X.w) X.A (call (.ref (T.ca c)) us) (EP X pins σ Q) X.xe s := by
  obtain ⟨hall, ds, f, F, r, hv, hmi, hF, hmu, hc, h2⟩ := make_get h
  · have rds : Reps (T.gm X.K) Hf vs ds := .all ors hall hv
    obtain ⟨mk, cl⟩ := ok.fac.make c f hmi
    obtain ⟨F', hF', n1, n2, hfull⟩ := ok.fill f _ r hc
    rw [hF] at hF'
    cases hF'
    obtain ⟨hps, hb⟩ := ok.fac.bind f F hF
    obtain ⟨dvs, dus, rd, bd, hl, rr⟩ := hb _ n1 n2
    have FO := ok.fns f F hF
    have lvd : vs.length = ds.length := rds.length
    -- the new instance
    have hx1 : H (s.heap.objs.size + 1) = none := I.hok.fresh (Nat.le_succ _)
    have hx2 : H s.heap.objs.size = none := I.hok.fresh (Nat.le_refl _)
    have hne : s.heap.objs.size ≠ s.heap.objs.size + 1 := Nat.ne_of_lt (Nat.lt_succ_self _)
    have I2 := Inv.made (C := T.ca c) I
    have fz : ∀ {a}, H a = none → Hf a = none := fun {a} z => by
      cases q : Hf a with
      | none => rfl
      | some o => rw [E.sub _ _ q] at z; cases z
    have gr0 : Gr Hf H Hf (upd (upd H s.heap.objs.size (.own (s.heap.objs.size + 1))) (s.heap.objs.size + 1) (.ins (T.ca c) s.heap.objs.size [])) :=
      (Gr.loose E.sub hx2).trans (Gr.loose (Gr.loose E.sub hx2).sub (by rw [upd_ne hne.symm]; exact hx1))
    have E0 : ER (T.gm X.K) ((V.ref (s.heap.objs.size + 1) :: vs).map some) ((EV.oi c [] [] :: ds.map .fr).map some) Hf (upd (upd H s.heap.objs.size (.own (s.heap.objs.size + 1))) (s.heap.objs.size + 1) (.ins (T.ca c) s.heap.objs.size [])) := by
      refine ⟨gr0.sub, fun i e hi => ?_, fun i j e e' v w a h1 h2 _ _ h3 h4 => ?_⟩
      · cases i with
        | zero =>
          simp at hi
          subst hi
          exact ⟨_, rfl, _, s.heap.objs.size, [], rfl, fz hx1, upd_same, .nil, rfl⟩
        | succ i =>
          rw [List.map_cons, List.getElem?_cons_succ, List.getElem?_map, List.getElem?_map] at hi
          cases q : ds[i]? with
          | none => rw [q] at hi; cases hi
          | some d =>
            rw [q] at hi
            cases hi
            obtain ⟨v, e1, e2⟩ := rds.getD q
            exact ⟨v, by rw [List.map_cons, List.getElem?_cons_succ, List.getElem?_map, e1]; rfl, e2⟩
      · have zero : ∀ {i : Nat} {e : EV}, ((EV.oi c [] [] :: ds.map EV.fr).map some)[i]? = some (some e) → e.own = true → i = 0 := fun {i e} hi ho => by
          cases i with
          | zero => rfl
          | succ i =>
            rw [List.map_cons, List.getElem?_cons_succ, List.getElem?_map, List.getElem?_map] at hi
            cases q : ds[i]? with
            | none => rw [q] at hi; cases hi
            | some d => rw [q] at hi; cases hi; cases ho
        rw [zero h1 h3.own, zero h2 h4.own]
    have E1 := E0.app (rr _ Hf) (by simp [lvd])
    have own1 : ∀ a, Own ((V.ref (s.heap.objs.size + 1) :: vs ++ dvs).map some) ((EV.oi c [] [] :: ds.map .fr ++ (F.dfl.drop ((EV.oi c [] [] :: ds.map EV.fr).length + F.dfl.length - F.np)).map EV.fr).map some) (upd (upd H s.heap.objs.size (.own (s.heap.objs.size + 1))) (s.heap.objs.size + 1) (.ins (T.ca c) s.heap.objs.size [])) a → a = s.heap.objs.size + 1 := fun a z => by
      have z := (Own.app (by simp [lvd])).mp z
      obtain ⟨i, e, v, h1, h3, h2⟩ := z
      cases i with
      | zero =>
        simp at h1 h3
        subst h1 h3
        cases (show V.ref (s.heap.objs.size + 1) = .ref a from h2)
        rfl
      | succ i =>
        rw [List.map_cons, List.getElem?_cons_succ, List.getElem?_map, List.getElem?_map] at h1
        cases q : ds[i]? with
        | none => rw [q] at h1; cases h1
        | some d => rw [q] at h1; cases h1; exact h2.fr.elim
    have grB : ∀ {Hf' H'}, Back (T.gm X.K) (V.ref (s.heap.objs.size + 1) :: vs ++ dvs) (EV.oi c [] [] :: ds.map .fr ++ (F.dfl.drop ((EV.oi c [] [] :: ds.map EV.fr).length + F.dfl.length - F.np)).map EV.fr) Hf (upd (upd H s.heap.objs.size (.own (s.heap.objs.size + 1))) (s.heap.objs.size + 1) (.ins (T.ca c) s.heap.objs.size [])) Hf' H' → Gr Hf H Hf' H' := fun b =>
      ⟨b.sub, b.ext, fun a o e => b.frame a o (gr0.grow a o e) (fun z => by rw [own1 a z, hx1] at e; cases e), fun a n => by
        rcases b.acc a n with z | z | z
        · exact .inr (by rw [own1 a z]; exact hx1)
        · exact .inl z
        · exact .inr (gr0.grow.free z)⟩
    have hsp : spD T C X.K F.np F.mu f (V.ref (s.heap.objs.size + 1) :: (vs ++ dvs)) (upd (upd H s.heap.objs.size (.own (s.heap.objs.size + 1))) (s.heap.objs.size + 1) (.ins (T.ca c) s.heap.objs.size [])) (fun v H2 => v = .non ∧ Q (.ref (s.heap.objs.size + 1)) H2) (WE W σ) := by
      refine ⟨?_, _, Hf, r, ?_, E1, hfull, ?_⟩
      · rw [List.length_cons, List.length_append, hl, lvd]
        simp at n1 ⊢
        omega
      · rw [List.length_append, List.length_map, List.length_drop]
        simp at n1 n2 ⊢
        omega
      · cases r with
        | exc x =>
          rcases h2 with ⟨ns, xs, eq, _⟩ | ⟨x', eq, rfl⟩
          · cases eq
          cases eq
          exact fun cls d Hf' H' b xr => p cls d Hf' H' ((grB b).stp E).toNil xr
        | ret e fin =>
          intro v Hf' H' b fi sr mi
          rcases h2 with ⟨ns, xs, eq, rfl⟩ | ⟨x, eq, _⟩
          · cases eq
            cases (show Rep (T.gm X.K) Hf' v .non from sr)
            refine ⟨rfl, ?_⟩
            rw [hmu] at fi
            cases fi with
            | cons g1 g2 g3 =>
              simp at g1
              subst g1
              obtain ⟨a, dx, ws, e1, e2, e3, e4, e5⟩ := g2
              cases e1
              have g := grB b
              have ext : Same Hf' (upd Hf' (s.heap.objs.size + 1) (.ins (T.ca c) dx ((ns.map (T.gm X.K).fn).zip ws))) := fun a o e => by
                rw [upd_ne fun z => by subst z; rw [e2] at e; cases e]; exact e
              have g' : Gr Hf H (upd Hf' (s.heap.objs.size + 1) (.ins (T.ca c) dx ((ns.map (T.gm X.K).fn).zip ws))) H' := by
                refine ⟨fun a o e => ?_, g.ext.trans ext, g.grow, fun a n => ?_⟩
                · by_cases q : a = s.heap.objs.size + 1
                  · subst q; rw [upd_same] at e; cases e; exact e3
                  · rw [upd_ne q] at e; exact g.sub a o e
                · by_cases q : a = s.heap.objs.size + 1
                  · subst q; exact .inr hx1
                  · rw [upd_ne q] at n; exact g.acc a n
              exact p _ _ _ (g'.stp E) (Rep.ins upd_same (e4.mono ext) e5) .fr
          · cases eq
    have r2 : Vals (V.ref (s.heap.objs.size + 1) :: (vs ++ dvs)) (Value.ref (s.heap.objs.size + 1) :: (us ++ dus)) := .cons rfl (rv.append rd)
    have hl2 : (Value.ref (s.heap.objs.size + 1) :: us ++ dus).length = (T.ps f).length := by
      have e := r2.length
      rw [FO.len _ _ _ _ hsp] at e
      exact e.symm
    have hr : Room (L + 1) X.A := ok.room.mono (by omega)
    refine wpAny_call (make_map (f := T.fa f) I.kIn mk.makes mk.init (beq_iff_eq.mp mk.fn) (codeAny_mono (FO.run _ X.stack _ _ ⟨Value.ref (s.heap.objs.size + 1) :: us, []⟩ (Value.ref (s.heap.objs.size + 1) :: (us ++ dus)) _ _ (WE W σ) (hr.make (T.ca c) us [])
      (I2.env0.make (T.ca c) us []) (bd _ (Value.ref (s.heap.objs.size + 1) :: us) I2.kIn hl2) r2 hsp) fun r s' hq' => ?_))
    cases r with
    | error e => exact passAt ok.takes σ pins _ _ e s' I2 hq'
    | ok fl =>
      cases fl with
      | ret u =>
        obtain ⟨v, H', I3, rv, ev, q3⟩ := I2.after hq'
        subst ev
        exact ⟨rv, ⟨V.ref (s.heap.objs.size + 1), H', I3, rfl, q3⟩⟩
      | next => exact False.elim hq'
      | brk => exact False.elim hq'
      | cont => exact False.elim hq'

variable {x : Str} {p pos apos : Pos} {es : List Expr} {es' : Es} {o : Expr} {o' : E}
theorem call_tl {f : Nat} (q : TX T X.K W (ev P C (.call f es')) σ H Q) : TL T X.K W (evl P C es') σ H fun vs H1 => CallQ T P C X.K W σ f vs H1 Q := by
  obtain ⟨ρ, Hf, res, E, h1, h2⟩ := q.get
  rw [ev] at h1
  exact TL.bind E h1 (fun ods ρ1 vs Hf1 H1 k st ors => apply_q st.er ors k (h2.step st)) fun x hx => by subst hx; exact h2
/-- f(..) -/
theorem x_call (ok : Cok T P C L X W) (mo : MuOk P) {f : Nat} {e : Expr} (hx : x = T.ln f) (ht : T.tl f = true) (hg : Gl X x) (hdb : (x == ("__debug__" : Str)) = false) (h : PA X (e :: es) (TL T X.K W (evl P C es'))) (hs : (e :: es).all notStar = true) :
    PE X (.Call (.Name x p) (e :: es) [] pos) (TX T X.K W (ev P C (.call f es'))) := ⟨fun pins s σ H Q I q => by
  obtain ⟨hm, hk⟩ := ok.fac.fnG f ht
  rw [← hx] at hm
  refine wpAny_Call_Name_kw (ld_glob I hg hm ?_ hdb)
  rw [List.all_cons, Bool.and_eq_true] at hs
  exact PySem.W.callWith_K (h₀ := X.base) I.ok.mod.kin hk (thn (h.run pos pins s σ H _ I (call_tl q)) fun us s1 ⟨vs, H1, I1, r1, q1⟩ => ⟨I1.kIn, run_call ok.here ok.toCok0 mo I1 r1 q1⟩) (starE hs.1) (starA hs.2)⟩
theorem x_call0 (ok : Cok T P C L X W) (mo : MuOk P) {f : Nat} (hx : x = T.ln f) (ht : T.tl f = true) (hg : Gl X x) (hdb : (x == ("__debug__" : Str)) = false) :
    PE X (.Call (.Name x p) [] [] pos) (TX T X.K W (ev P C (.call f .nil))) := ⟨fun pins s σ H Q I q => by
  obtain ⟨hm, hk⟩ := ok.fac.fnG f ht
  rw [← hx] at hm
  refine wpAny_Call_Name_kw (ld_glob I hg hm ?_ hdb)
  exact PySem.W.callWith_K0 I.kIn hk (run_call (us := []) ok.here ok.toCok0 mo I .nil (call_tl q).nil)⟩
def NewQ (T : Tx) (P : Prog) (C : Orc) (K : PySem.W.Frag) (W : WX) (σ : St) (c : Nat) (vs : List V) (H : Hp) (Q : VK) : Prop := ∃ ρ Hf ods res, ER (T.gm K) σ ρ Hf H ∧ ORs (T.gm K) σ Hf vs ods ∧ make P C c ods ρ = some res ∧ Post T K W σ ρ Hf H Q res
theorem new_tl {c : Nat} (q : TX T X.K W (ev P C (.new c es')) σ H Q) : TL T X.K W (evl P C es') σ H fun vs H1 => NewQ T P C X.K W σ c vs H1 Q := by
  obtain ⟨ρ, Hf, res, E, h1, h2⟩ := q.get
  rw [ev] at h1
  exact TL.bind E h1 (fun ods ρ1 vs Hf1 H1 k st ors => ⟨ρ1, Hf1, ods, res, st.er, ors, k, h2.step st⟩) fun x hx => by subst hx; exact h2
/-- C(..) -/
theorem x_new (ok : Cok T P C L X W) (mo : MuOk P) {c f : Nat} {e : Expr} (hx : x = T.cn c) (ht : T.tc c = true) (hi : P.meth c mInit = some f) (hg : Gl X x) (hdb : (x == ("__debug__" : Str)) = false) (h : PA X (e :: es) (TL T X.K W (evl P C es'))) (hs : (e :: es).all notStar = true) :
    PE X (.Call (.Name x p) (e :: es) [] pos) (TX T X.K W (ev P C (.new c es'))) := ⟨fun pins s σ H Q I q => by
  have hm := ok.fac.clG c ht
  rw [← hx] at hm
  refine wpAny_Call_Name_kw (ld_glob I hg hm ?_ hdb)
  rw [List.all_cons, Bool.and_eq_true] at hs
  exact PySem.W.callWith_K (h₀ := X.base) I.ok.mod.kin (ok.fac.make c f hi).1.kp (thn (h.run pos pins s σ H _ I (new_tl q)) fun us s1 ⟨vs, H1, I1, r1, ρ, Hf, ods, res, E, ors, k, p⟩ => ⟨I1.kIn, run_new ok mo I1 r1 E ors k p⟩) (starE hs.1) (starA hs.2)⟩
theorem x_new0 (ok : Cok T P C L X W) (mo : MuOk P) {c f : Nat} (hx : x = T.cn c) (ht : T.tc c = true) (hi : P.meth c mInit = some f) (hg : Gl X x) (hdb : (x == ("__debug__" : Str)) = false) :
    PE X (.Call (.Name x p) [] [] pos) (TX T X.K W (ev P C (.new c .nil))) := ⟨fun pins s σ H Q I q => by
  have hm := ok.fac.clG c ht
  rw [← hx] at hm
  refine wpAny_Call_Name_kw (ld_glob I hg hm ?_ hdb)
  obtain ⟨ρ, Hf, ods, res, E, ors, k, p⟩ := (new_tl q).nil
  exact PySem.W.callWith_K0 I.kIn (ok.fac.make c f hi).1.kp (run_new (us := []) ok mo I .nil E ors k p)⟩
/-- o.m(..): the receiver, then the arguments -/
theorem meth_tl {m : Nat} (q : TX T X.K W (ev P C (.meth m o' es')) σ H Q) : TX T X.K W (ev P C o') σ H fun x H1 => ∃ (a : Addr) (c : Nat) (dx : Addr) (ns : List Nat) (vs : List V) (f : Nat), x = .ref a ∧ H1 a = some (.ins (T.ca c) dx ((ns.map T.fn).zip vs)) ∧ P.meth c m = some f ∧
    TL T X.K W (evl P C es') σ H1 fun us H2 => CallQ T P C X.K W σ f (x :: us) H2 Q := by
  obtain ⟨ρ, Hf, res, E, h1, h2⟩ := q.get
  rw [ev] at h1
  refine TX.val E h1 (fun e ρ1 v Hf1 H1 k st r => ?_) fun x hx => by subst hx; exact h2
  cases hd : e.fz with
  | ins c ns xs =>
    rw [hd] at k r
    dsimp only at k
    cases hm : P.meth c m with
    | none => rw [hm] at k; cases k
    | some f =>
      rw [hm] at k
      cases r with
      | @ins a dx _ _ vs _ g1 g2 g3 =>
        refine ⟨a, c, dx, ns, vs, f, rfl, st.er.sub _ _ g1, hm, ?_⟩
        refine TL.bind st.er k (fun ods ρ2 us Hf2 H2 k2 st2 ors => ?_) fun x hx => by subst hx; exact h2.step st
        exact apply_q st2.er (.cons (o := .d (.ins c ns xs)) ((Rep.ins g1 g2 g3).mono st2.ext) ors) k2 ((h2.step st).step st2)
  | _ => rw [hd] at k; cases k
theorem zip_none {T : Tx} {m : Str} (h : ∀ n, m ≠ T.fn n) : ∀ (ns : List Nat) (vs : List V), ((ns.map T.fn).zip vs).lookup m = none
  | [], _ => rfl
  | _ :: _, [] => rfl
  | n :: ns, v :: vs => by
    show List.lookup m ((T.fn n, v) :: (ns.map T.fn).zip vs) = none
    rw [List.lookup_cons, show (m == T.fn n) = false from beq_eq_false_iff_ne.mpr (h n)]
    exact zip_none h ns vs
theorem x_meth (ok : Cok T P C L X W) (mo : MuOk P) {m : Nat} {e : Expr} (hmi : m ≠ mInit) (ho : PE X o (TX T X.K W (ev P C o'))) (h : PA X (e :: es) (TL T X.K W (evl P C es'))) (hs : (e :: es).all notStar = true) {pl : Sem Bool}
    (ht : PySem.eval (.Call (.Attribute o (T.mn m) apos) (e :: es) [] pos) X.env = (do
      let ov ← PySem.eval o X.env
      standAt apos.atName
      let (f, first) ← holding [ov] (getMethod ov (T.mn m) pl)
      callWith pos f first (backTo pos (starEach (e :: es) X.env)) (backToKw pos (keywordEach [] X.env)))) :
    PE X (.Call (.Attribute o (T.mn m) apos) (e :: es) [] pos) (TX T X.K W (ev P C (.meth m o' es'))) := ⟨fun pins s σ H Q I q => by
  rw [List.all_cons, Bool.and_eq_true] at hs
  refine PySem.W.methodCall_KW (pl := pl) (thn (ho.run pins s σ H _ I (meth_tl q)) fun u s1 ⟨x, H1, I1, rx, a, c, dx, ns, vs, f, ex, ea, hm, q1⟩ => ?_) ht
  subst ex
  obtain rfl : u = Value.ref a := rx
  obtain ⟨cl, me, sf⟩ := ok.fac.meth c m f hm hmi
  refine getmeth_ok I1 ea cl me (zip_none (fun n => ok.fac.mf c m f n hm) _ _) ?_
  exact PySem.W.callWith_K (first := [.ref a]) (h₀ := X.base) I.ok.mod.kin me.kp (thn (h.run pos pins s1 σ H1 _ I1 q1) fun us s2 ⟨vs, H2, I2, r2, q2⟩ => ⟨I2.kIn, run_call (us := .ref a :: us) ok.here ok.toCok0 mo I2 (.cons (show RelV (.ref a) (.ref a) from rfl) r2) q2⟩) (starE hs.1) (starA hs.2)⟩
theorem x_meth0 (ok : Cok T P C L X W) (mo : MuOk P) {m : Nat} (hmi : m ≠ mInit) (ho : PE X o (TX T X.K W (ev P C o'))) {pl : Sem Bool}
    (ht : PySem.eval (.Call (.Attribute o (T.mn m) apos) [] [] pos) X.env = (do
      let ov ← PySem.eval o X.env
      standAt apos.atName
      let (f, first) ← holding [ov] (getMethod ov (T.mn m) pl)
      callWith pos f first (backTo pos (starEach [] X.env)) (backToKw pos (keywordEach [] X.env)))) :
    PE X (.Call (.Attribute o (T.mn m) apos) [] [] pos) (TX T X.K W (ev P C (.meth m o' .nil))) := ⟨fun pins s σ H Q I q => by
  refine PySem.W.methodCall_KW (pl := pl) (thn (ho.run pins s σ H _ I (meth_tl q)) fun u s1 ⟨x, H1, I1, rx, a, c, dx, ns, vs, f, ex, ea, hm, q1⟩ => ?_) ht
  subst ex
  obtain rfl : u = Value.ref a := rx
  obtain ⟨cl, me, sf⟩ := ok.fac.meth c m f hm hmi
  refine getmeth_ok I1 ea cl me (zip_none (fun n => ok.fac.mf c m f n hm) _ _) ?_
  exact PySem.W.callWith_K0 (first := [.ref a]) I1.kIn me.kp (run_call (us := [.ref a]) ok.here ok.toCok0 mo I1 (.cons (show RelV (.ref a) (.ref a) from rfl) .nil) q1.nil)⟩
end
theorem few_all {env : Env} {pos : Pos} : ∀ {es : List Expr}, es.all notStar = true → (backTo pos (starEach es env)).all (fun x => !x.1) = true
  | [], _ => rfl
  | e :: es, h => by
    rw [List.all_cons, Bool.and_eq_true] at h
    rw [starE h.1]
    show (true && (backTo pos (starEach es env)).all (fun x => !x.1)) = true
    rw [few_all h.2]
    rfl
theorem methEq {o : Expr} {m : Str} {apos pos : Pos} {es : List Expr} {env : Env} (hb : notSup o = true) (hs : es.all notStar = true) (hl : es.length < 29) (hp : (apos.endLine == pos.line) = true) :
    ∃ pl, PySem.eval (.Call (.Attribute o m apos) es [] pos) env = (do
      let ov ← PySem.eval o env
      standAt apos.atName
      let (f, first) ← holding [ov] (getMethod ov m pl)
      callWith pos f first (backTo pos (starEach es env)) (backToKw pos (keywordEach [] env))) := by
  have hform : methodCallForm (es.length + ([] : List Keyword).length) (backTo pos (starEach es env)) (backToKw pos (keywordEach [] env)) = true := by
    unfold methodCallForm
    rw [few_all hs]
    have : (backToKw pos (keywordEach [] env)).all (fun x => x.1.isSome) = true := rfl
    rw [this]
    simp
    show es.length + (if (backToKw pos (keywordEach [] env)).isEmpty = true then 0 else 1) < 30
    split <;> omega
  have hpos : methodCallPos true o env apos pos = pure pos := by unfold methodCallPos; simp [hp]
  rw [arm_eval_Call, attB hb]
  unfold methodCall
  rw [hform, hpos]
  unfold calleeOf
  exact ⟨(do return (← importBound o env).getD true), rfl⟩
end Ev
/-! Ev 13: statements: stores, blocks, if, while. -/
namespace Ev
open PySem PySem.Spec L2

structure KeepS (mu : List Nat) (σ σ' : St) : Prop where
  at_ : ∀ i ∈ mu, σ'[i]? = σ[i]?
  len : σ'.length = σ.length
theorem KeepS.refl {mu : List Nat} {σ : St} : KeepS mu σ σ := ⟨fun _ _ => rfl, rfl⟩
theorem KeepS.trans {mu : List Nat} {σ σ1 σ2 : St} (a : KeepS mu σ σ1) (b : KeepS mu σ1 σ2) : KeepS mu σ σ2 := ⟨fun i h => (b.at_ i h).trans (a.at_ i h), b.len.trans a.len⟩
theorem KeepS.sub {mu mu' : List Nat} {σ σ1 : St} (h : ∀ i ∈ mu, i ∈ mu') (a : KeepS mu' σ σ1) : KeepS mu σ σ1 := ⟨fun i z => a.at_ i (h i z), a.len⟩
/-- a slot's own object, over a store -/
def MineS (σ : St) (ρ : EnvD) (H : Hp) (σ' : St) (ρ' : EnvD) (H' : Hp) (e : EV) (v : V) : Prop := ∀ a, Has H' e v a → (Own σ ρ H a ∨ H a = none) ∧ ¬ Own σ' ρ' H' a

section
variable {G : Gm} {σ σ1 : St} {ρ ρ1 : EnvD} {Hf H Hf1 H1 : Hp} {i : Nat} {v : V} {e : EV}
theorem set_self {α : Type} {l : List α} {i : Nat} {x : α} (h : i < l.length) : (l.set i x)[i]? = some x := List.getElem?_set_self h
theorem set_some {α : Type} {l : List α} {i j : Nat} {x y : α} (h : (l.set i x)[j]? = some y) : (j = i ∧ y = x) ∨ (j ≠ i ∧ l[j]? = some y) := by
  by_cases q : i = j
  · subst q
    have hl : i < (l.set i x).length := lt_of_get h
    rw [List.length_set] at hl
    rw [List.getElem?_set_self hl] at h
    cases h
    exact .inl ⟨rfl, rfl⟩
  · exact .inr ⟨fun z => q z.symm, set_get_ne q h⟩
theorem set_slot {j : Nat} {e' : EV} (h : (ρ.set i (some e))[j]? = some (some e')) : (j = i ∧ e' = e) ∨ (j ≠ i ∧ ρ[j]? = some (some e')) := by
  rcases set_some h with ⟨h1, h2⟩ | h
  · exact .inl ⟨h1, by cases h2; rfl⟩
  · exact .inr h
/-- a value is stored -/
theorem ER.store (E : ER G σ ρ Hf H) (r : SR G Hf H v e) (n : ∀ a, Has H e v a → ¬ Own σ ρ H a) (hi : i < σ.length) : ER G (σ.set i (some v)) (ρ.set i (some e)) Hf H := by
  refine ⟨E.sub, fun j e' h => ?_, fun j k e' e'' w w' a h1 h2 h5 h6 h3 h4 => ?_⟩
  · rcases set_slot h with ⟨rfl, rfl⟩ | ⟨q, h⟩
    · exact ⟨v, set_self hi, r⟩
    · obtain ⟨w, g1, g2⟩ := E.slot j e' h
      exact ⟨w, by rw [List.getElem?_set_ne (fun z => q z.symm)]; exact g1, g2⟩
  · rcases set_slot h1 with ⟨g1, g2⟩ | ⟨q, g1⟩
    · rcases set_slot h2 with ⟨k1, k2⟩ | ⟨q', k1⟩
      · rw [g1, k1]
      · subst g1
        rw [set_self hi] at h5
        rw [List.getElem?_set_ne (fun z => q' z.symm)] at h6
        cases h5
        exact absurd ⟨k, e'', w', k1, h6, h4⟩ (n a (g2 ▸ h3))
    · rcases set_slot h2 with ⟨k1, k2⟩ | ⟨q', k1⟩
      · subst k1
        rw [set_self hi] at h6
        rw [List.getElem?_set_ne (fun z => q z.symm)] at h5
        cases h6
        exact absurd ⟨j, e', w, g1, h5, h3⟩ (n a (k2 ▸ h4))
      · rw [List.getElem?_set_ne (fun z => q z.symm)] at h5
        rw [List.getElem?_set_ne (fun z => q' z.symm)] at h6
        exact E.apart j k e' e'' w w' a g1 k1 h5 h6 h3 h4
theorem Own.stored {a : Addr} (hi : i < σ.length) (h : Own (σ.set i (some v)) (ρ.set i (some e)) H a) : Own σ ρ H a ∨ Has H e v a := by
  obtain ⟨j, e', w, h1, h3, h2⟩ := h
  rcases set_slot h1 with ⟨g1, g2⟩ | ⟨g1, g2⟩
  · subst g1; subst g2
    rw [set_self hi] at h3
    cases h3
    exact .inr h2
  · exact .inl ⟨j, e', w, g2, by rw [List.getElem?_set_ne (fun z => g1 z.symm)] at h3; exact h3, h2⟩
theorem Stp.store (s : Stp G σ ρ Hf H σ1 ρ1 Hf1 H1) (r : SR G Hf1 H1 v e) (m : MineS σ ρ H σ1 ρ1 H1 e v) (hi : i < σ1.length) : Stp G σ ρ Hf H (σ1.set i (some v)) (ρ1.set i (some e)) Hf1 H1 where
  er := s.er.store r (fun a h1 => (m a h1).2) hi
  ext := s.ext
  frame := s.frame
  acc := fun a h => by
    rcases h with h | h
    · rcases h.stored hi with z | z
      · exact s.acc a (.inl z)
      · exact (m a z).1.elim .inl fun z => .inr (.inr z)
    · exact s.acc a (.inr h)
theorem KeepS.store {mu : List Nat} (k : KeepS mu σ σ1) (h : mu.contains i = false) : KeepS mu σ (σ1.set i (some v)) := ⟨fun j hj => by
  rw [List.getElem?_set_ne (fun z => by subst z; simp at h; exact h hj)]
  exact k.at_ j hj, by rw [List.length_set]; exact k.len⟩
end

section
variable (T : Tx) (K : PySem.W.Frag) (W : WX) (mu : List Nat)
/-- what is wanted behind a statement -/
def FPost (D : Ends) (σ : St) (ρ : EnvD) (Hf H : Hp) : F → Prop
  | .nx ρ' => ∀ σ' Hf' H', Stp (T.gm K) σ ρ Hf H σ' ρ' Hf' H' → KeepS mu σ σ' → D.nx σ' H'
  | .rt e ρ' => ∀ v σ' Hf' H', Stp (T.gm K) σ ρ Hf H σ' ρ' Hf' H' → KeepS mu σ σ' → SR (T.gm K) Hf' H' v e → MineS σ ρ H σ' ρ' H' e v → D.rt v H'
  | .ex x => ∀ σ' cls d Hf' H', Stp (T.gm K) σ ρ Hf H σ' [] Hf' H' → KeepS mu σ σ' → XR T x cls d H' → W cls d σ' H'
def TSt (r : EnvD → Option F) : TS := fun D σ H => ∃ ρ Hf res, ER (T.gm K) σ ρ Hf H ∧ r ρ = some res ∧ FPost T K W mu D σ ρ Hf H res
end
section
variable {T : Tx} {P : Prog} {C : Orc} {X : Cx} {K : PySem.W.Frag} {W : WX} {mu : List Nat} {D : Ends} {σ σ1 : St} {ρ ρ1 : EnvD} {Hf H Hf1 H1 : Hp}
theorem Stp.freshS (st : Stp (T.gm K) σ ρ Hf H σ1 ρ1 Hf1 H1) {a : Addr} (h : Own σ1 ρ1 H1 a ∨ H1 a = none) : Own σ ρ H a ∨ H a = none := by
  cases e : H a with
  | none => exact .inr rfl
  | some o =>
    by_cases n : Own σ ρ H a
    · exact .inl n
    · have k := st.frame a o e n
      rcases h with h | h
      · rcases st.acc a (.inl h) with z | z | z
        · exact .inl z
        · cases q : Hf a with
          | none => exact absurd q z
          | some o' => have := (st.er.own h).1; rw [st.ext a o' q] at this; cases this
        · rw [e] at z; cases z
      · rw [k] at h; cases h
theorem FPost.step {res : F} (st : Stp (T.gm K) σ ρ Hf H σ1 ρ1 Hf1 H1) (k : KeepS mu σ σ1) (p : FPost T K W mu D σ ρ Hf H res) : FPost T K W mu D σ1 ρ1 Hf1 H1 res := by
  cases res with
  | nx ρ' => exact fun σ' Hf' H' s k' => p σ' Hf' H' (st.trans s) (k.trans k')
  | rt e ρ' => exact fun v σ' Hf' H' s k' r m => p v σ' Hf' H' (st.trans s) (k.trans k') r fun a h1 => ⟨st.freshS (m a h1).1, (m a h1).2⟩
  | ex x => exact fun σ' cls d Hf' H' s k' r => p σ' cls d Hf' H' (st.trans s) (k.trans k') r
theorem FPost.raised {x : Exn} (p : FPost T K W mu D σ ρ Hf H (.ex x)) : Raised T K W σ ρ Hf H x := fun cls d Hf' H' s r => p σ cls d Hf' H' s .refl r
theorem TSt.mk' {r : EnvD → Option F} {res : F} (E : ER (T.gm K) σ ρ Hf H) (h : r ρ = some res) (p : FPost T K W mu D σ ρ Hf H res) : TSt T K W mu r D σ H := ⟨ρ, Hf, res, E, h, p⟩
/-- first an expression -/
theorem TX.bindF {r : EnvD → Option (R EV)} {k : EV → EnvD → Option F} {Q : VK} {res : F} (E : ER (T.gm K) σ ρ Hf H) (h : bindF (r ρ) k = some res) (p : FPost T K W mu D σ ρ Hf H res)
    (ok : ∀ e ρ1 v Hf1 H1, k e ρ1 = some res → Stp (T.gm K) σ ρ Hf H σ ρ1 Hf1 H1 → SR (T.gm K) Hf1 H1 v e → Mine σ ρ H ρ1 H1 e v → Q v H1) : TX T K W r σ H Q := by
  cases hr : r ρ with
  | none => rw [hr] at h; cases h
  | some y =>
    cases y with
    | ex x =>
      rw [hr] at h
      have h' : some (F.ex x) = some res := h
      cases h'
      exact ⟨ρ, Hf, _, E, hr, p.raised⟩
    | ok e ρ1 =>
      rw [hr] at h
      exact ⟨ρ, Hf, _, E, hr, fun v Hf1 H1 s q m => ok e ρ1 v Hf1 H1 h s q m⟩
theorem TT'.bindF {r : EnvD → Option (R Bool)} {k : Bool → EnvD → Option F} {Q : Bool → Hp → Prop} {res : F} (E : ER (T.gm K) σ ρ Hf H) (h : Ev.bindF (r ρ) k = some res) (p : FPost T K W mu D σ ρ Hf H res)
    (ok : ∀ e ρ1 Hf1 H1, k e ρ1 = some res → Stp (T.gm K) σ ρ Hf H σ ρ1 Hf1 H1 → Q e H1) : TT' T K W r σ H Q := by
  cases hr : r ρ with
  | none => rw [hr] at h; cases h
  | some y =>
    cases y with
    | ex x =>
      rw [hr] at h
      have h' : some (F.ex x) = some res := h
      cases h'
      exact ⟨ρ, Hf, _, E, hr, p.raised⟩
    | ok e ρ1 =>
      rw [hr] at h
      exact ⟨ρ, Hf, _, E, hr, fun Hf1 H1 s => ok e ρ1 Hf1 H1 h s⟩

variable {st : Stmt} {rest : List Stmt} {e : Expr} {e' : E} {pos : Pos}
theorem ss_nil : PSs X [] (TSt T X.K W mu (execs P C .nil mu)) := pss_nil.weak fun D σ H q => by
  obtain ⟨ρ, Hf, res, E, h, p⟩ := q
  rw [execs] at h
  cases h
  exact p σ Hf H (.refl E) .refl
theorem ss_cons {s' : S} {ss' : Ss} (h1 : PS X st (TSt T X.K W mu (exec P C s' mu))) (h2 : PSs X rest (TSt T X.K W mu (execs P C ss' mu))) : PSs X (st :: rest) (TSt T X.K W mu (execs P C (.cons s' ss') mu)) := (pss_cons h1 h2).weak fun D σ H q => by
  obtain ⟨ρ, Hf, res, E, h, p⟩ := q
  rw [execs] at h
  cases hx : exec P C s' mu ρ with
  | none => rw [hx] at h; cases h
  | some r =>
    rw [hx] at h
    cases r with
    | nx ρ1 => exact ⟨ρ, Hf, _, E, hx, fun σ' Hf' H' s k => ⟨ρ1, Hf', res, s.er, h, p.step s k⟩⟩
    | rt v ρ1 => cases h; exact ⟨ρ, Hf, _, E, hx, p⟩
    | ex x => cases h; exact ⟨ρ, Hf, _, E, hx, p⟩
theorem s_bad {r : List Nat → EnvD → Option F} : PS X st (TSt T X.K W mu (exec P C .bad mu)) := ⟨fun pins s σ H D I q => by
  obtain ⟨ρ, Hf, res, E, h, p⟩ := q
  rw [exec] at h; cases h⟩
theorem x_bad : Snd T X W e (ev P C .bad) where
  pe := ⟨fun pins s σ H Q I q => by
    obtain ⟨ρ, Hf, res, E, h, p⟩ := q
    rw [ev] at h; cases h⟩
  pt := ⟨fun pins s σ H Q I q => by
    obtain ⟨ρ, Hf, res, E, h, p⟩ := q
    simp only [ev] at h; cases h⟩
  pw := fun _ _ _ _ => ⟨fun wh pins s σ H Q I q => by
    obtain ⟨ρ, Hf, res, E, h, p⟩ := q
    simp only [ev] at h; cases h⟩
theorem s_pass : PS X (.Pass pos) (TSt T X.K W mu (exec P C .pass mu)) := ps_pass.weak fun D σ H q => by
  obtain ⟨ρ, Hf, res, E, h, p⟩ := q
  rw [exec] at h
  cases h
  exact p σ Hf H (.refl E) .refl
theorem s_expr (he : PE X e (TX T X.K W (ev P C e'))) (hs : swapsWith e none pos.line X.env = pure false) : PS X (.Expr e pos) (TSt T X.K W mu (exec P C (.expr e') mu)) := (ps_expr he hs).weak fun D σ H q => by
  obtain ⟨ρ, Hf, res, E, h, p⟩ := q
  rw [exec] at h
  exact TX.bindF E h p fun v ρ1 u Hf1 H1 k s r m => by cases k; exact p σ Hf1 H1 s .refl
theorem s_ret (he : PE X e (TX T X.K W (ev P C e'))) : PS X (.Return (some e) pos) (TSt T X.K W mu (exec P C (.ret e') mu)) := (ps_ret he).weak fun D σ H q => by
  obtain ⟨ρ, Hf, res, E, h, p⟩ := q
  rw [exec] at h
  exact TX.bindF E h p fun v ρ1 u Hf1 H1 k s r m => by cases k; exact p u σ Hf1 H1 s .refl r m
theorem s_retn : PS X (.Return none pos) (TSt T X.K W mu (exec P C .retn mu)) := ps_retN.weak fun D σ H q => by
  obtain ⟨ρ, Hf, res, E, h, p⟩ := q
  rw [exec] at h
  cases h
  exact p .non σ Hf H (.refl E) .refl Rep.non fun a z => z.fr.elim
theorem s_ifs {a b : List Stmt} {a' b' : Ss} (hc : PT X e (TT' T X.K W (fun ρ => tst (ev P C e' ρ)))) (ha : PSs X a (TSt T X.K W mu (execs P C a' mu))) (hb : PSs X b (TSt T X.K W mu (execs P C b' mu))) :
    PS X (.If e a b pos) (TSt T X.K W mu (exec P C (.ifs e' a' b') mu)) := (ps_if hc ha hb).weak fun D σ H q => by
  obtain ⟨ρ, Hf, res, E, h, p⟩ := q
  rw [exec] at h
  refine TT'.bindF E h p fun t ρ1 Hf1 H1 k s => ?_
  cases t with
  | true => exact .mk' s.er k (p.step s .refl)
  | false => exact .mk' s.er k (p.step s .refl)

/-! ### while -/
theorem whN_mono {c : EnvD → Option (R Bool)} {b : EnvD → Option F} : ∀ {n m : Nat} {ρ : EnvD} {r : F}, n ≤ m → whN c b n ρ = some r → whN c b m ρ = some r
  | 0, m, ρ, r, _, h => by cases h
  | n + 1, 0, ρ, r, h, _ => by omega
  | n + 1, m + 1, ρ, r, h, q => by
    rw [whN] at q ⊢
    cases hc : c ρ with
    | none => rw [hc] at q; cases q
    | some y =>
      rw [hc] at q
      cases y with
      | ex x => exact q
      | ok t ρ1 =>
        cases t with
        | false => exact q
        | true =>
          dsimp only at q ⊢
          cases hb : b ρ1 with
          | none => rw [hb] at q; cases q
          | some z =>
            rw [hb] at q
            cases z with
            | nx ρ2 => exact whN_mono (by omega) q
            | rt v ρ2 => exact q
            | ex x => exact q
theorem wh_get {c : EnvD → Option (R Bool)} {b : EnvD → Option F} {r : F} (h : wh c b ρ = some r) : ∃ n, whN c b n ρ = some r := by
  unfold wh at h
  split at h
  · exact ⟨_, h⟩
  · cases h
theorem wh_of {c : EnvD → Option (R Bool)} {b : EnvD → Option F} {r : F} {n : Nat} (h : whN c b n ρ = some r) : wh c b ρ = some r := by
  unfold wh
  have hx : ∃ n r, whN c b n ρ = some r := ⟨n, r, h⟩
  rw [dif_pos hx]
  obtain ⟨r', h'⟩ := hx.choose_spec
  rcases Nat.le_total n hx.choose with z | z
  · exact whN_mono z h
  · have := whN_mono z h'
    rw [h] at this
    rw [h', this]
theorem s_while {b : List Stmt} {b' : Ss} (hp : PassesOwn (model X.prog X.w) X.A X.env X.xe) (hc : PT X e (TT' T X.K W (fun ρ => tst (ev P C e' ρ)))) (hb : PSs X b (TSt T X.K W mu (execs P C b' mu))) :
    PS X (.While e b [] pos) (TSt T X.K W mu (exec P C (.while_ e' b') mu)) := (ps_while hp hc hb).weak fun D σ H q => by
  obtain ⟨ρ, Hf, res, E, h, p⟩ := q
  rw [exec] at h
  obtain ⟨n, hn⟩ := wh_get h
  refine ⟨fun m σ1 H1 => ∃ ρ1 Hf1, Stp (T.gm X.K) σ ρ Hf H σ1 ρ1 Hf1 H1 ∧ KeepS mu σ σ1 ∧ whN (fun ρ => tst (ev P C e' ρ)) (fun ρ => execs P C b' mu ρ) m ρ1 = some res, ⟨n, ρ, Hf, .refl E, .refl, hn⟩, ?_⟩
  rintro m σ1 H1 ⟨ρ1, Hf1, s1, k1, w1⟩
  cases m with
  | zero => cases w1
  | succ m =>
  rw [whN] at w1
  cases hx : tst (ev P C e' ρ1) with
  | none => rw [hx] at w1; cases w1
  | some y =>
    rw [hx] at w1
    cases y with
    | ex x =>
      cases w1
      exact ⟨ρ1, Hf1, _, s1.er, hx, (p.step s1 k1).raised⟩
    | ok t ρ2 =>
      refine ⟨ρ1, Hf1, _, s1.er, hx, fun Hf2 H2 s2 => ?_⟩
      cases t with
      | false =>
        cases w1
        rw [if_neg Bool.false_ne_true]
        exact p σ1 Hf2 H2 (s1.trans s2) k1
      | true =>
        rw [if_pos rfl]
        dsimp only at w1
        refine ⟨fun σ3 H3 => ∃ ρ3 Hf3, Stp (T.gm X.K) σ ρ Hf H σ3 ρ3 Hf3 H3 ∧ KeepS mu σ σ3 ∧ whN (fun ρ => tst (ev P C e' ρ)) (fun ρ => execs P C b' mu ρ) m ρ3 = some res, fun σ3 H3 z => ⟨m, Nat.lt_succ_self m, z⟩, ?_⟩
        cases hb2 : execs P C b' mu ρ2 with
        | none => rw [hb2] at w1; cases w1
        | some z =>
          rw [hb2] at w1
          have s12 := s1.trans s2
          refine ⟨ρ2, Hf2, z, s12.er, hb2, ?_⟩
          cases z with
          | nx ρ3 => exact fun σ3 Hf3 H3 s3 k3 => ⟨ρ3, Hf3, s12.trans s3, k1.trans k3, w1⟩
          | rt v ρ3 => cases w1; exact p.step s12 k1
          | ex x => cases w1; exact p.step s12 k1
end
end Ev
/-! Ev 14: assignments, items and fields written. -/
namespace Ev
open PySem PySem.Spec L2

section
variable {G : Gm} {σ σ1 : St} {ρ ρ1 : EnvD} {Hf H Hf1 H1 : Hp} {i : Nat}
/-- a slot's own objects are written -/
theorem Stp.write {e e' : EV} {v : V} {H2 : Hp} (s : Stp G σ ρ Hf H σ1 ρ1 Hf1 H1) (h : ρ1[i]? = some (some e)) (hσ : σ1[i]? = some (some v)) (hw : ∀ b, ¬ Has H1 e v b → H2 b = H1 b) (sr : SR G Hf1 H2 v e') (hh : ∀ b, Has H2 e' v b → Has H1 e v b) :
    Stp G σ ρ Hf H σ1 (ρ1.set i (some e')) Hf1 H2 := by
  have sr0 := s.er.sr h hσ
  have other : ∀ {j : Nat} {e2 : EV} {w : V}, j ≠ i → ρ1[j]? = some (some e2) → σ1[j]? = some (some w) → ∀ b, Has H1 e2 w b → H2 b = H1 b := fun {j e2 w} hj h1 h2 b hb => hw b fun z => hj (s.er.apart j i _ _ _ _ b h1 h h2 hσ hb z)
  have back : ∀ {j : Nat} {e2 : EV} {w : V} {b : Addr}, (ρ1.set i (some e'))[j]? = some (some e2) → σ1[j]? = some (some w) → Has H2 e2 w b → ∃ e3, ρ1[j]? = some (some e3) ∧ Has H1 e3 w b := fun {j e2 w b} q hj hb => by
    rcases set_slot q with ⟨z, y⟩ | ⟨z, y⟩
    · subst z; subst y
      rw [hσ] at hj
      cases hj
      exact ⟨e, h, hh b hb⟩
    · exact ⟨e2, y, ((s.er.sr y hj).hasIff (other z y hj)).mp hb⟩
  refine ⟨⟨fun b o q => ?_, fun j e2 q => ?_, fun j k e2 e3 w w' b h1 h2 h5 h6 h3 h4 => ?_⟩, s.ext, fun b o q n => ?_, fun b q => ?_⟩
  · rw [hw b fun z => by rw [(sr0.has z).1] at q; cases q]
    exact s.er.sub b o q
  · rcases set_slot q with ⟨z1, z2⟩ | ⟨z1, z2⟩
    · subst z1; subst z2; exact ⟨_, hσ, sr⟩
    · obtain ⟨w, g1, g2⟩ := s.er.slot j e2 z2
      exact ⟨w, g1, g2.move (other z1 z2 g1) (fun b q => (g2.has q).1) (Same.refl _)⟩
  · obtain ⟨e4, g1, g2⟩ := back h1 h5 h3
    obtain ⟨e5, k1, k2⟩ := back h2 h6 h4
    exact s.er.apart j k _ _ _ _ b g1 k1 h5 h6 g2 k2
  · have q2 := s.frame b o q n
    rw [hw b fun z => ?_]
    · exact q2
    · rcases s.acc b (.inl ⟨i, e, v, h, hσ, z⟩) with y | y | y
      · exact n y
      · have hf := (sr0.has z).1
        cases q3 : Hf b with
        | none => exact y q3
        | some o' => rw [s.ext b o' q3] at hf; cases hf
      · rw [q] at y; cases y
  · rcases q with ⟨j, e2, w, q1, q3, q2⟩ | q
    · obtain ⟨e3, g1, g2⟩ := back q1 q3 q2
      exact s.acc b (.inl ⟨j, e3, w, g1, q3, g2⟩)
    · exact s.acc b (.inr q)
/-- a slot's own list, as it stands -/
theorem Stp.list {xs : List D} (s : Stp G σ ρ Hf H σ1 ρ1 Hf1 H1) (h : get ρ1 i = some (.ow xs)) : ∃ a vs, σ1[i]? = some (some (.ref a)) ∧ Hf1 a = none ∧ H1 a = some (.lst vs) ∧ Reps G Hf1 vs xs := by
  obtain ⟨v, h1, a, vs, e, h2, h3, h4⟩ := s.er.slot i _ (get_some h)
  subst e
  exact ⟨a, vs, h1, h2, h3, h4⟩
theorem Stp.setL {a : Addr} {vs' : List V} {xs xs' : List D} (s : Stp G σ ρ Hf H σ1 ρ1 Hf1 H1) (h : get ρ1 i = some (.ow xs)) (hσ : σ1[i]? = some (some (.ref a))) (h2 : Hf1 a = none) (r : Reps G Hf1 vs' xs') :
    Stp G σ ρ Hf H σ1 (ρ1.set i (some (.ow xs'))) Hf1 (upd H1 a (.lst vs')) := s.write (get_some h) hσ (fun b n => upd_ne fun z => n (by rw [z]; exact rfl)) ⟨a, vs', rfl, h2, upd_same, r⟩ fun b z => z
end

/-- no comprehension -/
def notComp : Expr → Bool
  | .ListComp _ _ _ _ => false
  | .SetComp _ _ _ _ => false
  | .DictComp _ _ _ _ _ => false
  | _ => true
theorem swW {e : Expr} {t : Option Expr} {l : Nat} {env : Env} (h : notComp e = true) : swapsWith e t l env = pure false := by
  cases e <;> first | rfl | cases h
theorem swS {tg e : Expr} {l : Nat} {env : Env} (h : notComp e = true) : swapsWithSole [tg] e l env = pure false := swW h

section
variable {T : Tx} {P : Prog} {C : Orc} {X : Cx} {W : WX} {mu : List Nat} {D : Ends} {σ σ1 : St} {ρ ρ1 : EnvD} {Hf H Hf1 H1 : Hp} {pins : List (Addr × Obj)} {s : Shared}
variable {e : Expr} {e' : E} {pos : Pos} {i : Nat} {x : Str} {p' : Pos}
theorem lenN (I : Inv X pins σ H s) (hi : X.N[i]? = some x) : i < σ.length := by rw [I.len]; exact lt_of_get hi
theorem Mine.toS {ρ' : EnvD} {H' : Hp} {e : EV} {v : V} (m : Mine σ ρ H ρ' H' e v) : MineS σ ρ H σ ρ' H' e v := m
/-- name = e -/
theorem s_asgN (hN : X.N.Nodup) (hi : X.N[i]? = some x) (hx : Loc X.env.scope x) (hf : X.fn x = true ∨ X.env.scope.names.lookup x = some .local) (he : PE X e (TX T X.K W (ev P C e'))) (hs : swapsWith e (some (.Name x p')) pos.line X.env = pure false) :
    PS X (.Assign [.Name x p'] e pos) (TSt T X.K W mu (exec P C (.asg (.nm i) e') mu)) := ⟨fun pins s σ H D I q => by
  refine (ps_set hN hi hx he hs hf).run pins s σ H D I ?_
  obtain ⟨ρ, Hf, res, E, h, p⟩ := q
  rw [exec] at h
  refine TX.bindF E h p fun v ρ1 u Hf1 H1 k st r m => ?_
  have k' : (match (if mu.contains i then none else some (ρ1.set i (some v))) with | some ρ2 => some (F.nx ρ2) | none => none) = some res := k
  cases hc : mu.contains i with
  | true => rw [hc] at k'; cases k'
  | false =>
    rw [hc] at k'
    cases k'
    exact p _ Hf1 H1 (st.store r m.toS (lenN I hi)) (KeepS.refl.store hc)⟩

/-- several names -/
def gNs : List Nat → TGs
  | [] => gNil
  | i :: is => gCons (gName i) (gNs is)
def okNs (N : List Str) (loc : Str → Bool) : List Nat → List Expr → Bool
  | [], [] => true
  | i :: is, .Name x _ :: es => decide (N[i]? = some x) && loc x && okNs N loc is es
  | _, _ => false
theorem okNs_pgs (hN : X.N.Nodup) {loc : Str → Bool} (hl : ∀ x, loc x = true → Loc X.env.scope x ∧ (X.fn x = true ∨ X.env.scope.names.lookup x = some .local)) : ∀ {is : List Nat} {es : List Expr}, okNs X.N loc is es = true → PGs X es (gNs is) ∧ (assignEach es X.env).length = is.length ∧ (assignEach es X.env).findIdx? (·.1) = none
  | [], [], _ => ⟨pgs_nil, rfl, rfl⟩
  | i :: is, e :: es, h => by
    obtain ⟨x, p, rfl⟩ : ∃ x p, e = .Name x p := by
      cases e with
      | Name x p => exact ⟨x, p, rfl⟩
      | _ => cases h
    have h' : (decide (X.N[i]? = some x) && loc x && okNs X.N loc is es) = true := h
    simp only [Bool.and_eq_true, decide_eq_true_eq] at h'
    obtain ⟨⟨h1, h2⟩, h3⟩ := h'
    obtain ⟨a, b, c⟩ := okNs_pgs hN hl h3
    refine ⟨pgs_cons (pg_name hN h1 (hl x h2).1 (hl x h2).2) a rfl, ?_, ?_⟩
    · show ((false, _) :: assignEach es X.env).length = _
      rw [List.length_cons, b, List.length_cons]
    · show ((false, _) :: assignEach es X.env).findIdx? (·.1) = none
      rw [List.findIdx?_cons]
      simp [c]
  | [], _ :: _, h => by cases h
  | _ :: _, [], h => by cases h
def setV : List Nat → List V → St → St
  | i :: is, v :: vs, σ => setV is vs (σ.set i (some v))
  | _, _, σ => σ
theorem gNs_of : ∀ {is : List Nat} {vs : List V} {σ : St} {H : Hp} {Q : St → Hp → Prop}, vs.length = is.length → Q (setV is vs σ) H → gNs is vs σ H Q
  | [], [], _, _, _, _, h => ⟨rfl, h⟩
  | i :: is, v :: vs, σ, H, Q, hl, h => ⟨v, vs, rfl, gNs_of (by simpa using hl) h⟩
  | [], _ :: _, _, _, _, hl, _ => by cases hl
  | _ :: _, [], _, _, _, hl, _ => by cases hl
theorem Stp.storeAll {G : Gm} : ∀ {is : List Nat} {vs : List V} {ds : List Ev.D} {σ1 : St} {ρ1 : EnvD}, Stp G σ ρ Hf H σ1 ρ1 Hf1 H1 → Reps G Hf1 vs ds → (∀ i ∈ is, i < σ1.length) → Stp G σ ρ Hf H (setV is vs σ1) (setAll is ds ρ1) Hf1 H1
  | [], vs, ds, _, _, s, _, _ => s
  | _ :: _, _, _, _, _, s, .nil, _ => s
  | i :: is, _, _, σ1, ρ1, s, .cons r rs, hl => by
    refine Stp.storeAll (is := is) (s.store (e := .fr _) r (fun a z => z.fr.elim) (hl i List.mem_cons_self)) rs fun j hj => ?_
    rw [List.length_set]
    exact hl j (List.mem_cons_of_mem _ hj)
theorem KeepS.storeAll {mu : List Nat} : ∀ {is : List Nat} {vs : List V} {σ1 : St}, KeepS mu σ σ1 → is.any mu.contains = false → KeepS mu σ (setV is vs σ1)
  | [], _, _, k, _ => k
  | _ :: _, [], _, k, _ => k
  | i :: is, v :: vs, _, k, h => by
    rw [List.any_cons, Bool.or_eq_false_iff] at h
    exact KeepS.storeAll (is := is) (k.store h.1) h.2
theorem okNs_lt {loc : Str → Bool} {N : List Str} : ∀ {is : List Nat} {es : List Expr}, okNs N loc is es = true → ∀ i ∈ is, i < N.length
  | [], _, _, i, h => by cases h
  | j :: is, e :: es, h, i, hi => by
    obtain ⟨x, p, rfl⟩ : ∃ x p, e = .Name x p := by
      cases e with
      | Name x p => exact ⟨x, p, rfl⟩
      | _ => cases h
    have h' : (decide (N[j]? = some x) && loc x && okNs N loc is es) = true := h
    simp only [Bool.and_eq_true, decide_eq_true_eq] at h'
    rcases List.mem_cons.mp hi with e | hi
    · rw [e]; exact lt_of_get h'.1.1
    · exact okNs_lt h'.2 i hi
  | _ :: _, [], h, _, _ => by cases h
/-- a, b, .. = e -/
theorem s_asgT {is : List Nat} {es : List Expr} {k : Nat} {loc : Str → Bool} (hN : X.N.Nodup) (hcm : X.calm = true) (hl : ∀ x, loc x = true → Loc X.env.scope x ∧ (X.fn x = true ∨ X.env.scope.names.lookup x = some .local)) (ht : okNs X.N loc is es = true) (he : PE X e (TX T X.K W (ev P C e')))
    (hs : notComp e = true) (hw : swappedStores [.Tuple es k p'] e X.env = pure none) : PS X (.Assign [.Tuple es k p'] e pos) (TSt T X.K W mu (exec P C (.asg (.tp is) e') mu)) := ⟨fun pins s σ H D I q => by
  obtain ⟨pg, h1, h2⟩ := okNs_pgs hN hl ht
  refine (ps_asg he (pg_tup hcm pg h1 h2) (swS hs) hw rfl).run pins s σ H D I ?_
  obtain ⟨ρ, Hf, res, E, h, p⟩ := q
  rw [exec] at h
  refine TX.bindF E h p fun v ρ1 u Hf1 H1 k st r m => ?_
  cases v with
  | fr d =>
    cases d with
    | tup ds =>
      have k' : (match (if is.any mu.contains then none else if is.length = ds.length then some (setAll is ds ρ1) else none) with | some ρ2 => some (F.nx ρ2) | none => none) = some res := k
      cases hc : is.any mu.contains with
      | true => rw [hc] at k'; cases k'
      | false =>
        rw [hc] at k'
        by_cases hd : is.length = ds.length
        · rw [if_neg Bool.false_ne_true, if_pos hd] at k'
          cases k'
          cases (show Rep (T.gm X.K) Hf1 u (.tup ds) from r) with
          | @tup a vs _ h1 rs =>
            refine ⟨a, vs, rfl, SqT.same st.er.sub h1, by rw [rs.length, hd], gNs_of (by rw [rs.length, hd]) ?_⟩
            exact p _ Hf1 H1 (st.storeAll rs fun i hi => by rw [I.len]; exact okNs_lt ht i hi) (KeepS.refl.storeAll hc)
        · rw [if_neg Bool.false_ne_true, if_neg hd] at k'; cases k'
    | _ => cases k
  | _ => cases k⟩
/-- a, b = e, f at once -/
theorem s_par {j : Nat} {y : Str} {a b : Expr} {a' b' : E} {px py pt : Pos} {kt k2 : Nat} {pt2 : Pos} (hc : X.calm = true) (hN : X.N.Nodup) (hi : X.N[i]? = some x) (hj : X.N[j]? = some y) (hij : i ≠ j)
    (hx : X.env.scope.names.lookup x = some .local) (hy : X.env.scope.names.lookup y = some .local) (ha : PE X a (TX T X.K W (ev P C a'))) (hb : PE X b (TX T X.K W (ev P C b'))) (hsa : notStar a = true) (hsb : notStar b = true)
    (hw : swappedStores [.Tuple [.Name x px, .Name y py] kt pt] (.Tuple [a, b] k2 pt2) X.env = pure (some [x, y])) :
    PS X (.Assign [.Tuple [.Name x px, .Name y py] kt pt] (.Tuple [a, b] k2 pt2) pos) (TSt T X.K W mu (exec P C (.par i j a' b') mu)) := ⟨fun pins s σ H D I q => by
  refine (ps_par hc hN hi hj hij hx hy (pa_cons ha (pa_cons hb pa_nil (starE hsb)) (starE hsa)) hw).run pins s σ H D I ?_
  obtain ⟨ρ, Hf, res, E, h, p⟩ := q
  rw [exec] at h
  refine TX.bindF E h p fun v ρ1 u Hf1 H1 k st r m => ?_
  refine TX.bindF st.er k (p.step st .refl) fun w ρ2 u2 Hf2 H2 k2 st2 r2 m2 => ?_
  refine ⟨u, u2, rfl, ?_⟩
  by_cases hcc : (mu.contains i || mu.contains j || i == j) = true
  · rw [if_pos hcc] at k2; cases k2
  · rw [if_neg hcc] at k2
    cases k2
    simp only [Bool.or_eq_true, not_or, Bool.not_eq_true] at hcc
    -- the first value, behind the second
    have keep : ∀ {a ob}, Hf1 a = none → H1 a = some ob → ¬ Own σ ρ1 H1 a → Hf2 a = none ∧ H2 a = some ob ∧ ¬ Own σ ρ2 H2 a := fun {a ob} q1 q2 n1 => by
      have q3 := st2.frame a ob q2 n1
      refine ⟨?_, q3, fun z => ?_⟩
      · cases z : Hf2 a with
        | none => rfl
        | some o =>
          rcases st2.acc a (.inr (by rw [z]; exact fun y => by cases y)) with y | y | y
          · exact absurd y n1
          · exact absurd q1 y
          · rw [q2] at y; cases y
      · rcases st2.acc a (.inl z) with y | y | y
        · exact n1 y
        · exact y q1
        · rw [q2] at y; cases y
    have kp : ∀ a, Has H1 v u a → Hf2 a = none ∧ H2 a = H1 a ∧ ¬ Own σ ρ2 H2 a := fun a ha => by
      obtain ⟨z2, ob, z3⟩ := r.has ha
      obtain ⟨k1, k2, k3⟩ := keep z2 z3 (m a ha).2
      exact ⟨k1, k2.trans z3.symm, k3⟩
    have r' : SR (T.gm X.K) Hf2 H2 u v := r.move (fun a ha => (kp a ha).2.1) (fun a ha => (kp a ha).1) st2.ext
    have hi2 : ∀ a, Has H2 v u a ↔ Has H1 v u a := fun a => r.hasIff fun b hb => (kp b hb).2.1
    have s12 := st.trans st2
    have mv : MineS σ ρ H σ ρ2 H2 v u := fun a ha => ⟨(m a ((hi2 a).mp ha)).1, (kp a ((hi2 a).mp ha)).2.2⟩
    have sA := s12.store r' mv (lenN I hi)
    refine p _ Hf2 H2 (sA.store r2 (fun a ha => ⟨st.fresh (m2 a ha).1, fun z => ?_⟩) (by rw [List.length_set]; exact lenN I hj)) ((KeepS.refl.store hcc.1.1).store hcc.1.2)
    rcases z.stored (lenN I hi) with z | z
    · exact (m2 a ha).2 z
    · have z1 := (hi2 a).mp z
      obtain ⟨y2, ob, y3⟩ := r.has z1
      rcases (m2 a ha).1 with y | y
      · exact (m a z1).2 y
      · rw [y3] at y; cases y⟩
end
end Ev
/-! Ev 15: items and fields written, append, augmented names. -/
namespace Ev
open PySem PySem.Spec L2

theorem putFD_nil (f : Nat) (v : D) (ns : List Nat) : putFD f v ns [] = ([f], [v]) := by cases ns <;> rfl
theorem putFD_zip {T : Tx} (inj : ∀ i j, T.fn i = T.fn j → i = j) {G : Gm} {Hf : Hp} (f : Nat) {y : V} {v : D} (ry : Rep G Hf y v) : ∀ {ns : List Nat} {vs : List V} {xs : List D}, Reps G Hf vs xs → ns.length = vs.length →
    ∃ vs', putF (T.fn f) y ((ns.map T.fn).zip vs) = ((putFD f v ns xs).1.map T.fn).zip vs' ∧ Reps G Hf vs' (putFD f v ns xs).2 ∧ (putFD f v ns xs).1.length = vs'.length
  | [], [], _, .nil, _ => ⟨[y], rfl, .cons ry .nil, rfl⟩
  | n :: ns, u :: vs, x :: xs, .cons r rs, h => by
    by_cases e : n = f
    · subst e
      refine ⟨y :: vs, ?_, ?_, ?_⟩
      · show (if T.fn n = T.fn n then (T.fn n, y) :: (ns.map T.fn).zip vs else (T.fn n, u) :: putF (T.fn n) y ((ns.map T.fn).zip vs)) = _
        rw [if_pos rfl]
        unfold putFD
        rw [if_pos rfl]
        rfl
      · unfold putFD; rw [if_pos rfl]; exact .cons ry rs
      · unfold putFD; rw [if_pos rfl]; simpa using h
    · obtain ⟨vs', h1, h2, h3⟩ := putFD_zip inj f ry rs (by simpa using h)
      refine ⟨u :: vs', ?_, ?_, ?_⟩
      · show (if T.fn n = T.fn f then (T.fn n, y) :: (ns.map T.fn).zip vs else (T.fn n, u) :: putF (T.fn f) y ((ns.map T.fn).zip vs)) = _
        rw [if_neg fun z => e (inj _ _ z), h1]
        have e1 : putFD f v (n :: ns) (x :: xs) = (n :: (putFD f v ns xs).1, x :: (putFD f v ns xs).2) := by
          rw [putFD, if_neg e]
        rw [e1]
        rfl
      · unfold putFD; rw [if_neg e]; exact .cons r h2
      · unfold putFD; rw [if_neg e]; exact congrArg Nat.succ h3
  | [], _ :: _, _, _, h => by cases h
  | _ :: _, [], _, _, h => by cases h

section
variable {T : Tx} {P : Prog} {C : Orc} {L : Nat} {X : Cx} {W : WX} {mu : List Nat} {D : Ends} {σ σ1 : St} {ρ ρ1 : EnvD} {Hf H Hf1 H1 : Hp} {pins : List (Addr × Obj)} {s : Shared}
variable {e k : Expr} {e' k' : E} {pos : Pos} {i : Nat} {x : Str} {p' p'' apos : Pos}
/-- xs[k] = e -/
theorem s_sub (hi : PE X (.Name x p') (tVar i)) (he : PE X e (TX T X.K W (ev P C e'))) (hk : PE X k (TX T X.K W (ev P C k'))) (hs : notComp e = true)
    (ha : ∀ v, assign (.Subscript (.Name x p') k p'') X.env v = (do
      let ov ← holding [v] (PySem.eval (.Name x p') X.env)
      let iv ← holding [v, ov] (PySem.eval k X.env)
      standAt p''
      holding [v, ov, iv] (setItem ov iv v)
      release [v, ov, iv] [])) : PS X (.Assign [.Subscript (.Name x p') k p''] e pos) (TSt T X.K W mu (exec P C (.sub i k' e') mu)) := ⟨fun pins s σ H D I q => by
  refine (ps_asg he (pg_sub hi hk set_list ha) (swS hs) rfl rfl).run pins s σ H D I ?_
  obtain ⟨ρ, Hf, res, E, h, p⟩ := q
  rw [exec] at h
  refine TX.bindF E h p fun v ρ1 u Hf1 H1 kk st r m => ?_
  obtain ⟨Hf1', st1, r1⟩ := st.fz r m
  have hg : ∃ ys, get ρ1 i = some (.ow ys) := by
    cases g : get ρ1 i with
    | none => rw [g] at kk; cases kk
    | some y =>
      cases y with
      | ow ys => exact ⟨ys, rfl⟩
      | _ => rw [g] at kk; cases kk
  obtain ⟨ys, hy⟩ := hg
  rw [hy] at kk
  obtain ⟨a, _, g1, _⟩ := st1.list hy
  refine ⟨_, g1, TX.bindF st1.er kk (p.step st1 .refl) fun w ρ2 u2 Hf2 H2 k2 st2 r2 m2 => ?_⟩
  have s12 := st1.trans st2
  cases w with
  | fr dk =>
    cases dk with
    | int kx =>
      cases (show Rep (T.gm X.K) Hf2 u2 (.int kx) from r2)
      cases g : get ρ2 i with
      | none => simp only [setE, g] at k2; cases k2
      | some z =>
        cases z with
        | ow xs =>
          simp only [setE, g] at k2
          cases hj : ixD xs.length kx with
          | none => rw [hj] at k2; cases k2
          | some j =>
            rw [hj] at k2
            cases k2
            obtain ⟨a', vs, g1', g2, g3, g4⟩ := s12.list g
            rw [g1] at g1'
            cases g1'
            refine ⟨a, vs, kx, j, rfl, rfl, g3, by rw [← ixD_ixN, g4.length]; exact hj, ?_⟩
            exact p σ Hf2 _ (s12.setL g g1 g2 (g4.set j (r1.mono st2.ext))) .refl
        | _ => simp only [setE, g] at k2; cases k2
    | _ => cases k2
  | _ => cases k2⟩
/-- self.f = e -/
theorem s_fld (ok : Cok T P C L X W) {f : Nat} (hi : PE X (.Name x p') (tVar i)) (he : PE X e (TX T X.K W (ev P C e'))) (hs : notComp e = true) :
    PS X (.Assign [.Attribute (.Name x p') (T.fn f) p''] e pos) (TSt T X.K W mu (exec P C (.fld i f e') mu)) := ⟨fun pins s σ H D I q => by
  refine (ps_fld hi he (swW hs)).run pins s σ H D I ?_
  obtain ⟨ρ, Hf, res, E, h, p⟩ := q
  rw [exec] at h
  refine TX.bindF E h p fun v ρ1 u Hf1 H1 kk st r m => ?_
  obtain ⟨Hf1', st1, r1⟩ := st.fz r m
  cases g : get ρ1 i with
  | none => simp only [fldE, g] at kk; cases kk
  | some z =>
    cases z with
    | oi c ns xs =>
      simp only [fldE, g] at kk
      by_cases h1 : ns.length < 100
      · rw [if_pos h1] at kk
        by_cases h2 : P.fld c f = true
        · rw [if_pos h2] at kk
          cases kk
          obtain ⟨o, g1, a, dx, vs, g2, g3, g4, g5, g6⟩ := st1.er.slot i _ (get_some g)
          subst g2
          obtain ⟨cl, na⟩ := ok.fac.fld c f h2
          obtain ⟨vs', e1, e2, e3⟩ := putFD_zip ok.fac.inj (G := T.gm X.K) f r1 g5 g6
          refine ⟨_, g1, a, _, dx, _, rfl, g4, cl, na, ?_, ?_⟩
          · rw [List.length_zip, List.length_map]
            omega
          · rw [show (T.gm X.K).fn = T.fn from rfl, e1]
            exact p σ Hf1' _ (st1.write (get_some g) g1 (fun b n => upd_ne fun z => n (by rw [z]; exact rfl)) ⟨a, dx, vs', rfl, g3, upd_same, e2, e3⟩ fun b z => z) .refl
        · rw [if_neg h2] at kk; cases kk
      · rw [if_neg h1] at kk; cases kk
    | _ => simp only [fldE, g] at kk; cases kk⟩
/-- xs.append(e) -/
theorem s_app (hi : PE X (.Name x p') (tVar i)) (he : PE X e (TX T X.K W (ev P C e'))) (hst : notStar e = true) (hline : (apos.endLine == p''.line) = true) :
    PS X (.Expr (.Call (.Attribute (.Name x p') ("append" : Str) apos) [e] [] p'') pos) (TSt T X.K W mu (exec P C (.app i e') mu)) := ⟨fun pins s σ H D I q => by
  refine (ps_expr (pe_bm PySem.F.plainAttrs_list PySem.F.slot_list_append PySem.F.type_list_append mt_append hi (pa_cons he pa_nil (starE hst)) (attB rfl) ?_ hline (starE hst) rfl) rfl).run pins s σ H D I ?_
  · have h1 := few_all (env := X.env) (pos := p'') (es := [e]) (by simp [hst])
    rw [h1]
    rfl
  obtain ⟨ρ, Hf, res, E, h, p⟩ := q
  rw [exec] at h
  have hg : ∃ ys, get ρ i = some (.ow ys) := by
    cases g : get ρ i with
    | none => rw [g] at h; cases h
    | some y =>
      cases y with
      | ow ys => exact ⟨ys, rfl⟩
      | _ => rw [g] at h; cases h
  obtain ⟨ys, hy⟩ := hg
  rw [hy] at h
  obtain ⟨a, vs0, g1, g2, g3, g4⟩ := (Stp.refl E).list hy
  refine ⟨_, g1, .inl ⟨rfl, _, .of g3⟩, ?_⟩
  refine TX.bindF E h p fun v ρ1 u Hf1 H1 kk st r m => ?_
  obtain ⟨Hf1', st1, r1⟩ := st.fz r m
  cases g : get ρ1 i with
  | none => simp only [appE, g] at kk; cases kk
  | some z =>
    cases z with
    | ow xs =>
      simp only [appE, g] at kk
      by_cases hl : xs.length < most
      · rw [if_pos hl] at kk
        cases kk
        obtain ⟨a', vs, k1, k2, k3, k4⟩ := st1.list g
        rw [g1] at k1
        cases k1
        refine ⟨a, vs, u, rfl, rfl, k3, ?_, ?_⟩
        · have := most_le (Nat.le_of_lt hl)
          have h2 : (most : Nat) < sizeLine := by rw [sizeLine_eq]; decide
          rw [k4.length]
          omega
        · exact p σ Hf1' _ (st1.setL g g1 k2 (k4.append (.cons r1 .nil))) .refl
      · rw [if_neg hl] at kk; cases kk
    | _ => simp only [appE, g] at kk; cases kk⟩
/-- xs.extend(e) -/
theorem s_ext (hi : PE X (.Name x p') (tVar i)) (he : PE X e (TX T X.K W (ev P C e'))) (hst : notStar e = true) (hline : (apos.endLine == p''.line) = true) :
    PS X (.Expr (.Call (.Attribute (.Name x p') ("extend" : Str) apos) [e] [] p'') pos) (TSt T X.K W mu (exec P C (.ext i e') mu)) := ⟨fun pins s σ H D I q => by
  refine (ps_expr (pe_bm PySem.F.plainAttrs_list PySem.F.slot_list_extend PySem.F.type_list_extend mt_extend hi (pa_cons he pa_nil (starE hst)) (attB rfl) ?_ hline (starE hst) rfl) rfl).run pins s σ H D I ?_
  · have h1 := few_all (env := X.env) (pos := p'') (es := [e]) (by simp [hst])
    rw [h1]
    rfl
  obtain ⟨ρ, Hf, res, E, h, p⟩ := q
  rw [exec] at h
  have hg : ∃ ys, get ρ i = some (.ow ys) := by
    cases g : get ρ i with
    | none => rw [g] at h; cases h
    | some y =>
      cases y with
      | ow ys => exact ⟨ys, rfl⟩
      | _ => rw [g] at h; cases h
  obtain ⟨ys, hy⟩ := hg
  rw [hy] at h
  obtain ⟨a, vs0, g1, g2, g3, g4⟩ := (Stp.refl E).list hy
  refine ⟨_, g1, .inl ⟨rfl, _, .of g3⟩, ?_⟩
  refine TX.bindF E h p fun v ρ1 u Hf1 H1 kk st r m => ?_
  obtain ⟨Hf1', st1, r1⟩ := st.fz r m
  cases g : get ρ1 i with
  | none => simp only [extE, g] at kk; cases kk
  | some z =>
    cases z with
    | ow xs =>
      cases hv : v.fz with
      | lst ys =>
        rw [hv] at kk r1
        simp only [extE, g] at kk
        by_cases hl : xs.length + ys.length ≤ most
        · rw [if_pos hl] at kk
          cases kk
          obtain ⟨a', vs, k1, k2, k3, k4⟩ := st1.list g
          rw [g1] at k1
          cases k1
          obtain ⟨b, ws, hb, hb2⟩ : ∃ b ws, u = .ref b ∧ Hf1' b = some (.lst ws) ∧ Reps (T.gm X.K) Hf1' ws ys := by
            cases r1 with
            | lst h r => exact ⟨_, _, rfl, h, r⟩
          refine ⟨a, b, vs, ws, rfl, by rw [hb], k3, st1.er.sub _ _ hb2.1, ?_, ?_⟩
          · rw [k4.length, hb2.2.length]
            exact most_le hl
          · exact p σ Hf1' _ (st1.setL g g1 k2 (k4.append hb2.2)) .refl
        · rw [if_neg hl] at kk; cases kk
      | _ => rw [hv] at kk; simp only [extE, g] at kk; cases kk
    | _ => simp only [extE, g] at kk; cases kk⟩
/-- name += e, name -= e of ints -/
theorem s_aug {o : Op} {op : Operator} (ho : (o = .add ∧ op = .Add) ∨ (o = .sub ∧ op = .Sub)) (hN : X.N.Nodup) (hi : X.N[i]? = some x) (hx : Loc X.env.scope x) (hf : X.fn x = true ∨ X.env.scope.names.lookup x = some .local) (he : PE X e (TX T X.K W (ev P C e'))) :
    PS X (.AugAssign (.Name x p') op e pos) (TSt T X.K W mu (exec P C (.aug i o e') mu)) := by
  have main : ∀ (f : Int → Int → Int), PIp X op (ipI f) → (∀ ρ a b, augE ρ i a o (.int b) = some (.nx (ρ.set i (some (.fr (.int (f a b))))))) → PS X (.AugAssign (.Name x p') op e pos) (TSt T X.K W mu (exec P C (.aug i o e') mu)) := fun f hp hg => ⟨fun pins s σ H D I q => by
    refine (ps_aug hN hi hx he hp hf).run pins s σ H D I ?_
    obtain ⟨ρ, Hf, res, E, h, p⟩ := q
    rw [exec] at h
    have hgi : ∃ a, get ρ i = some (.fr (.int a)) := by
      cases g : get ρ i with
      | none => rw [g] at h; cases h
      | some y =>
        cases y with
        | fr d =>
          cases d with
          | int a => exact ⟨a, rfl⟩
          | _ => rw [g] at h; cases h
        | _ => rw [g] at h; cases h
    obtain ⟨a, ha⟩ := hgi
    rw [ha] at h
    obtain ⟨v, g1, g2⟩ := E.slot i _ (get_some ha)
    cases (show Rep (T.gm X.K) Hf v (.int a) from g2)
    refine ⟨_, g1, ?_⟩
    refine TX.bindF E h p fun v ρ1 u Hf1 H1 kk st r m => ?_
    obtain ⟨Hf1', st1, r1⟩ := st.fz r m
    cases hc : mu.contains i with
    | true => rw [hc] at kk; cases kk
    | false =>
      rw [hc, if_neg Bool.false_ne_true] at kk
      cases hz : v.fz with
      | int b =>
        rw [hz] at kk r1
        rw [hg] at kk
        cases kk
        cases r1
        exact ⟨a, b, rfl, rfl, p _ Hf1' H1 (st1.store (e := .fr (.int (f a b))) (Rep.int _) (fun a z => z.fr.elim) (lenN I hi)) (KeepS.refl.store hc)⟩
      | _ =>
        rw [hz] at kk
        rcases ho with ⟨e1, _⟩ | ⟨e1, _⟩ <;> subst e1 <;> cases kk⟩
  rcases ho with ⟨rfl, rfl⟩ | ⟨rfl, rfl⟩
  · exact main (fun i j => i + j) ip_add fun _ _ _ => rfl
  · exact main (fun i j => i - j) ip_sub fun _ _ _ => rfl
end
end Ev
/-! Ev 16: for. -/
namespace Ev
open PySem PySem.Spec L2

/-- the iterator walks the items -/
def Walks (G : Gm) (J : L2.It) (xs : List D) (Pp : Hp → Hp → Prop) : Prop := ∀ Hf H, Same Hf H → Pp Hf H → J.stop xs.length H ∧ ∀ (k : Nat) d, xs[k]? = some d → J.go k H ∧ ∀ x H', J.yld k H x H' → ∃ Hf', Gr Hf H Hf' H' ∧ Rep G Hf' x d
section
variable {G : Gm} {Hf1 : Hp} {xs : List D} {a : Addr} {lo : Int} {n : Nat}
theorem itl_walks {K : PySem.W.Frag} {Pp : Hp → Hp → Prop} (uq : ∀ Hf H, Same Hf H → Pp Hf H → ∃ vs, SqL K H a vs ∧ Reps G Hf vs xs) : Walks G (Itl K a) xs Pp := fun Hf H s p => by
  obtain ⟨vs, h1, h2⟩ := uq Hf H s p
  refine ⟨⟨vs, h1, by rw [h2.length]; exact Nat.le_refl _⟩, fun k d hd => ?_⟩
  obtain ⟨v, e1, e2⟩ := h2.getD hd
  refine ⟨⟨vs, v, h1, e1⟩, fun x H' y => ?_⟩
  obtain ⟨rfl, y⟩ := y
  have := y vs h1
  rw [e1] at this
  cases this
  exact ⟨Hf, .refl s, e2⟩
theorem itt_walks {K : PySem.W.Frag} {Pp : Hp → Hp → Prop} (uq : ∀ Hf H, Same Hf H → Pp Hf H → ∃ vs, SqT K H a vs ∧ Reps G Hf vs xs) : Walks G (Itt K a) xs Pp := fun Hf H s p => by
  obtain ⟨vs, h1, h2⟩ := uq Hf H s p
  refine ⟨⟨vs, h1, by rw [h2.length]; exact Nat.le_refl _⟩, fun k d hd => ?_⟩
  obtain ⟨v, e1, e2⟩ := h2.getD hd
  refine ⟨⟨vs, v, h1, e1⟩, fun x H' y => ?_⟩
  obtain ⟨rfl, y⟩ := y
  have := y vs h1
  rw [e1] at this
  cases this
  exact ⟨Hf, .refl s, e2⟩
theorem itr_walks {Pp : Hp → Hp → Prop} : Walks G (Itr lo n) (rngD lo n) Pp := fun Hf H s p => by
  have hl : (rngD lo n).length = n := by unfold rngD; simp
  refine ⟨by show n ≤ _; rw [hl]; exact Nat.le_refl _, fun k d hd => ?_⟩
  have hk : k < n := by have := lt_of_get hd; omega
  have hd' : d = .int (lo + (k : Nat)) := by
    unfold rngD at hd
    rw [List.getElem?_map, List.getElem?_range hk] at hd
    cases hd; rfl
  refine ⟨hk, fun x H' y => ?_⟩
  obtain ⟨rfl, rfl⟩ := y
  subst hd'
  exact ⟨Hf, .refl s, .int _⟩
end
section
variable (T : Tx) (K : PySem.W.Frag) (W : WX)
/-- what is walked, as it stands: told by the slot, or frozen -/
def SrcOk (G : Gm) (σ : St) (ρ1 : EnvD) (Hf1 : Hp) (Pp : Hp → Hp → Prop) : Option Nat → Prop
  | none => ∀ Hf' H', Same Hf1 Hf' → Pp Hf' H'
  | some i => ∃ e v, get ρ1 i = some e ∧ σ[i]? = some (some v) ∧ ∀ Hf' H', SR G Hf' H' v e → Pp Hf' H'
def TIt (r : EnvD → Option (R Src)) : TI := fun σ H Rr => ∃ ρ Hf res, ER (T.gm K) σ ρ Hf H ∧ r ρ = some res ∧ match res with
  | .ok (xs, b) ρ1 => ∀ J Hf1 H1 Pp, Stp (T.gm K) σ ρ Hf H σ ρ1 Hf1 H1 → Walks (T.gm K) J xs Pp → SrcOk (T.gm K) σ ρ1 Hf1 Pp b → Rr J H1
  | .ex x => Raised T K W σ ρ Hf H x
end
section
variable {T : Tx} {P : Prog} {C : Orc} {L : Nat} {X : Cx} {W : WX} {mu : List Nat} {D : Ends} {σ σ1 : St} {ρ ρ1 : EnvD} {Hf H Hf1 H1 : Hp} {pins : List (Addr × Obj)} {s : Shared}
variable {e : Expr} {e' : E} {pos : Pos} {i : Nat} {x : Str} {p' : Pos} {tg : Expr}
/-- a target by a datum -/
def TgOk (T : Tx) (K : PySem.W.Frag) (n : Nat) (t : Tg) (g : TG) : Prop := ∀ (mu : List Nat) (σ0 : St) (ρ0 : EnvD) (Hf0 H0 : Hp) (σ : St) (ρ : EnvD) (Hf H : Hp) (d : Ev.D) (x : V) (ρ' : EnvD) (Q : St → Hp → Prop), σ0.length = n → Stp (T.gm K) σ0 ρ0 Hf0 H0 σ ρ Hf H → KeepS mu σ0 σ →
  asgT mu t (.fr d) ρ = some ρ' → Rep (T.gm K) Hf x d → (∀ σ', Stp (T.gm K) σ0 ρ0 Hf0 H0 σ' ρ' Hf H → KeepS mu σ0 σ' → Q σ' H) → g x σ H Q
theorem tg_nm (hi : X.N[i]? = some x) : TgOk T X.K X.N.length (.nm i) (gName i) := fun mu σ0 ρ0 Hf0 H0 σ ρ Hf H d v ρ' Q hl st k h r q => by
  have h' : (if mu.contains i then none else some (ρ.set i (some (.fr d)))) = some ρ' := h
  cases hc : mu.contains i with
  | true => rw [hc] at h'; cases h'
  | false =>
    rw [hc] at h'
    cases h'
    exact q _ (st.store (e := .fr d) r (fun a z => z.fr.elim) (by rw [k.len, hl]; exact lt_of_get hi)) (k.store hc)
theorem tg_tp {is : List Nat} {es : List Expr} {loc : Str → Bool} (ht : okNs X.N loc is es = true) : TgOk T X.K X.N.length (.tp is) (gTup X.K is.length (gNs is)) := fun mu σ0 ρ0 Hf0 H0 σ ρ Hf H d v ρ' Q hl st k h r q => by
  cases d with
  | tup ds =>
    have h' : (if is.any mu.contains then none else if is.length = ds.length then some (setAll is ds ρ) else none) = some ρ' := h
    cases hc : is.any mu.contains with
    | true => rw [hc] at h'; cases h'
    | false =>
      rw [hc, if_neg Bool.false_ne_true] at h'
      by_cases hd : is.length = ds.length
      · rw [if_pos hd] at h'
        cases h'
        cases r with
        | @tup a vs _ h1 rs =>
          exact ⟨a, vs, rfl, SqT.same st.er.sub h1, by rw [rs.length, hd], gNs_of (by rw [rs.length, hd]) (q _ (st.storeAll rs fun j hj => by rw [k.len, hl]; exact okNs_lt ht j hj) (k.storeAll hc))⟩
      · rw [if_neg hd] at h'; cases h'
  | _ => cases h
theorem Gr.step (st : Stp (T.gm X.K) σ ρ Hf H σ1 ρ1 Hf1 H1) {Hf2 H2 : Hp} (g : Gr Hf1 H1 Hf2 H2) : Stp (T.gm X.K) σ ρ Hf H σ1 ρ1 Hf2 H2 := st.trans (g.stp st.er)
/-- for t in it: b -/
theorem s_for {it : Ev.It} {t : Tg} {g : TG} {b : List Stmt} {b' : Ss} (hp : PassesOwn (model X.prog X.w) X.A X.env X.xe) (hc : X.calm = true) (hi : PI X tg e (TIt T X.K W (evI P C it))) (hg : PG X tg g) (ht : TgOk T X.K X.N.length t g)
    (hb : ∀ mu, PSs X b (TSt T X.K W mu (execs P C b' mu))) (hs : ∀ x, foldedSetIterable e X.env x = pure x) : PS X (.For tg e b [] pos) (TSt T X.K W mu (exec P C (.for_ t it b') mu)) := ⟨fun pins s σ H D I q => by
  obtain ⟨ρ, Hf, res, E, h, p⟩ := q
  rw [exec] at h
  -- which names the body keeps
  cases hx : evI P C it ρ with
  | none => rw [hx] at h; cases h
  | some y =>
  rw [hx] at h
  cases y with
  | ex x =>
    cases h
    refine (ps_for (tb := TSt T X.K W mu (execs P C b' mu)) hp hc hi hg (hb mu) hs).run pins s σ H D I ?_
    exact ⟨ρ, Hf, _, E, hx, p.raised⟩
  | ok src ρ1 =>
  obtain ⟨xs, b0⟩ := src
  have h' : forL b0 (fun x ρ => match asgT (b0.toList ++ mu) t (.fr x) ρ with
      | none => none
      | some ρ' => execs P C b' (b0.toList ++ mu) ρ') xs ρ1 = some res := h
  refine (ps_for (tb := TSt T X.K W (b0.toList ++ mu) (execs P C b' (b0.toList ++ mu))) hp hc hi hg (hb _) hs).run pins s σ H D I ?_
  refine ⟨ρ, Hf, _, E, hx, fun J Hf1 H1 Pp st wk so => ?_⟩
  have sub : ∀ j ∈ mu, j ∈ b0.toList ++ mu := fun j hj => List.mem_append_right _ hj
  refine ⟨fun k m σ' H' => m = xs.length - k ∧ k ≤ xs.length ∧ ∃ ρ' Hf', Stp (T.gm X.K) σ ρ Hf H σ' ρ' Hf' H' ∧ KeepS (b0.toList ++ mu) σ σ' ∧ Same Hf1 Hf' ∧ Ev.same b0 ρ1 ρ' ∧
      forL b0 (fun x ρ => match asgT (b0.toList ++ mu) t (.fr x) ρ with
      | none => none
      | some ρ' => execs P C b' (b0.toList ++ mu) ρ') (xs.drop k) ρ' = some res, ⟨xs.length, by simp, Nat.zero_le _, ρ1, Hf1, st, .refl, Same.refl _, by cases b0 <;> simp [Ev.same], h'⟩, ?_⟩
  rintro k m σ' H' ⟨rfl, hk, ρ', Hf', st', ks, ext, sm, hf⟩
  have pp : Pp Hf' H' := by
    cases b0 with
    | none => exact so Hf' H' ext
    | some j =>
      obtain ⟨e0, v, g1, g2, g3⟩ := so
      have g4 : get ρ' j = some e0 := (show get ρ' j = get ρ1 j from sm).trans g1
      obtain ⟨w, k1, k2⟩ := st'.er.slot j _ (get_some g4)
      have := ks.at_ j (by simp)
      rw [k1, g2] at this
      cases this
      exact g3 _ _ k2
  obtain ⟨stop, go⟩ := wk Hf' H' st'.er.sub pp
  by_cases hlt : k < xs.length
  · rw [List.drop_eq_getElem_cons hlt] at hf
    obtain ⟨g1, g2⟩ := go k xs[k] (List.getElem?_eq_getElem hlt)
    refine .inr ⟨g1, fun σ3 H3 => ∃ ρ3 Hf3, Stp (T.gm X.K) σ ρ Hf H σ3 ρ3 Hf3 H3 ∧ KeepS (b0.toList ++ mu) σ σ3 ∧ Same Hf1 Hf3 ∧ Ev.same b0 ρ1 ρ3 ∧ forL b0 (fun x ρ => match asgT (b0.toList ++ mu) t (.fr x) ρ with
      | none => none
      | some ρ' => execs P C b' (b0.toList ++ mu) ρ') (xs.drop (k + 1)) ρ3 = some res, fun σ3 H3 z => ⟨xs.length - (k + 1), by omega, rfl, hlt, z⟩, fun x H2 y => ?_⟩
    obtain ⟨Hf2, gr, rx⟩ := g2 x H2 y
    have st2 := Gr.step st' gr
    unfold forL at hf
    cases ha : asgT (b0.toList ++ mu) t (.fr xs[k]) ρ' with
    | none => simp only [ha] at hf; cases hf
    | some ρ2 =>
    simp only [ha] at hf
    refine ht _ σ ρ Hf H σ' ρ' Hf2 H2 xs[k] x ρ2 _ I.len st2 ks ha rx fun σ2 st3 k3 => ?_
    cases hb2 : execs P C b' (b0.toList ++ mu) ρ2 with
    | none => rw [hb2] at hf; cases hf
    | some z =>
    rw [hb2] at hf
    refine ⟨ρ2, Hf2, z, st3.er, hb2, ?_⟩
    cases z with
    | nx ρ3 =>
      dsimp only at hf
      by_cases hs2 : Ev.same b0 ρ' ρ3
      · rw [if_pos hs2] at hf
        refine fun σ3 Hf3 H3 s4 k4 => ⟨ρ3, Hf3, st3.trans s4, k3.trans k4, ext.trans (gr.ext.trans s4.ext), ?_, hf⟩
        cases b0 with
        | none => trivial
        | some j => exact (show get ρ3 j = get ρ' j from hs2).trans sm
      · rw [if_neg hs2] at hf; cases hf
    | rt v ρ3 =>
      cases hf
      have p2 := FPost.step (mu := mu) (D := D) st3 (KeepS.sub sub k3) p
      exact fun v2 σ3 Hf3 H3 s4 k4 r4 m4 => p2 v2 σ3 Hf3 H3 s4 (KeepS.sub sub k4) r4 m4
    | ex x2 =>
      cases hf
      have p2 := FPost.step (mu := mu) (D := D) st3 (KeepS.sub sub k3) p
      exact fun σ3 cls d Hf3 H3 s4 k4 r4 => p2 σ3 cls d Hf3 H3 s4 (KeepS.sub sub k4) r4
  · have hke : k = xs.length := by omega
    subst hke
    rw [List.drop_length] at hf
    unfold forL at hf
    cases hf
    exact .inl ⟨stop, p σ' Hf' H' st' (ks.sub sub)⟩⟩

/-! ### what is walked -/
theorem it_of {r : R Src} {xs : List Ev.D} {b : Option Nat} {J : L2.It} {Pp : Hp → Hp → Prop} {Rr : L2.It → Hp → Prop} {K : PySem.W.Frag}
    (h : match R.ok (xs, b) ρ1 with
      | .ok (xs, b) ρ1 => ∀ J Hf1 H1 Pp, Stp (T.gm K) σ ρ Hf H σ ρ1 Hf1 H1 → Walks (T.gm K) J xs Pp → SrcOk (T.gm K) σ ρ1 Hf1 Pp b → Rr J H1
      | .ex x => Raised T K W σ ρ Hf H x) (st : Stp (T.gm K) σ ρ Hf H σ ρ1 Hf1 H1) (w : Walks (T.gm K) J xs Pp) (s : SrcOk (T.gm K) σ ρ1 Hf1 Pp b) : Rr J H1 := h J Hf1 H1 Pp st w s
/-- a list or a tuple just read -/
theorem pi_data (I : Inv X pins σ H s) {v : V} {u : Value} (rv : RelV v u) {d : Ev.D} {xs : List Ev.D} (r : RB (T.gm X.K) Hf H v d) (sh : Same Hf H) (hx : itemsOf d = some xs) {Rr : L2.It → Hp → Prop}
    (q : ∀ J, (∀ Pp, (∀ Hf' H', Same Hf' H' → Pp Hf' H' → RB (T.gm X.K) Hf' H' v d) → Walks (T.gm X.K) J xs Pp) → Rr J H) : wpAny (model X.prog X.w) X.A (pyIter u) (PIE X pins σ tg Rr) X.xe s := by
  have lst : ∀ {a : Addr} {vs : List V}, v = .ref a → SqL X.K H a vs → Rr (Itl X.K a) H → wpAny (model X.prog X.w) X.A (pyIter u) (PIE X pins σ tg Rr) X.xe s := fun {a vs} e hq q0 => by
    subst e
    cases rv
    obtain ⟨its, rv, p, hz⟩ := I.list hq
    refine wpAny_pyIter_list p.isList ?_
    refine ⟨s.heap.objs.size, [s.heap.objs.size], _, _, H, rfl, I.kept (t' := s.toks) fun b o e => Heap.get?_push_of_some _ e, turn_list a _, ⟨_, Heap.get?_push_size _ rfl, rfl, rfl⟩, fun b hb => ?_, q0⟩
    have e : b = s.heap.objs.size := by simpa using hb
    subst e
    exact I.fpOk (Nat.le_refl _) (I.hok.fresh (Nat.le_refl _))
  have tup : ∀ {a : Addr} {vs : List V}, v = .ref a → SqT X.K H a vs → Rr (Itt X.K a) H → wpAny (model X.prog X.w) X.A (pyIter u) (PIE X pins σ tg Rr) X.xe s := fun {a vs} e hq q0 => by
    subst e
    cases rv
    obtain ⟨its, rv, p, hz⟩ := I.tuple hq
    refine wpAny_pyIter_tuple (show s.heap.IsTuple a its.toArray from p) ?_
    refine ⟨s.heap.objs.size, [s.heap.objs.size], _, _, H, rfl, I.kept (t' := s.toks) fun b o e => Heap.get?_push_of_some _ e, turn_tuple a _, ⟨_, Heap.get?_push_size _ rfl, rfl, rfl⟩, fun b hb => ?_, q0⟩
    have e : b = s.heap.objs.size := by simpa using hb
    subst e
    exact I.fpOk (Nat.le_refl _) (I.hok.fresh (Nat.le_refl _))
  cases d with
  | lst ys =>
    cases hx
    obtain ⟨a, vs, e, h1, h2⟩ := r
    refine lst e (.of h1) (q _ fun Pp hP => itl_walks fun Hf' H' s' p' => ?_)
    obtain ⟨a', vs', e', k1, k2⟩ := hP Hf' H' s' p'
    rw [e] at e'
    cases e'
    exact ⟨vs', .of k1, k2⟩
  | frz ys =>
    cases hx
    obtain ⟨a, vs, e, h1, h2⟩ := r.inv_frz
    refine lst e (sh.seq h1) (q _ fun Pp hP => itl_walks fun Hf' H' s' p' => ?_)
    obtain ⟨a', vs', e', k1, k2⟩ := (hP Hf' H' s' p').inv_frz
    rw [e] at e'
    cases e'
    exact ⟨vs', s'.seq k1, k2⟩
  | tup ys =>
    cases hx
    obtain ⟨a, vs, e, h1, h2⟩ := r.inv_tup
    refine tup e (SqT.same sh h1) (q _ fun Pp hP => itt_walks fun Hf' H' s' p' => ?_)
    obtain ⟨a', vs', e', k1, k2⟩ := (hP Hf' H' s' p').inv_tup
    rw [e] at e'
    cases e'
    exact ⟨vs', SqT.same s' k1, k2⟩
  | _ => cases hx
theorem Rep.same_mono {G : Gm} {Hf' H' : Hp} {v : V} {d : Ev.D} (r : Rep G Hf v d) (e : Same Hf Hf') (s : Same Hf' H') : RB G Hf' H' v d := .of s (r.mono e)
theorem i_seq (he : PE X e (TX T X.K W (ev P C e'))) (hb : ∀ i, e' ≠ .bor i) : PI X tg e (TIt T X.K W (evI P C (.seq e'))) := ⟨fun pins s σ H Rr I q => by
  obtain ⟨ρ, Hf, res, E, h, p⟩ := q
  have h1 : bindR (ev P C e' ρ) (fun v ρ1 => match itemsOf v.fz with
    | some xs => some (R.ok (xs, none) ρ1)
    | none => none) = some res := by
    cases e' <;> first | exact absurd rfl (hb _) | exact h
  have q2 : TX T X.K W (ev P C e') σ H fun v H1 => ∃ Hf1 d xs, Rep (T.gm X.K) Hf1 v d ∧ Same Hf1 H1 ∧ itemsOf d = some xs ∧ ∀ J, (∀ Pp, (∀ Hf' H', Same Hf' H' → Pp Hf' H' → RB (T.gm X.K) Hf' H' v d) → Walks (T.gm X.K) J xs Pp) → Rr J H1 := by
    refine TX.val E h1 (fun v ρ1 u Hf1 H1 k st r => ?_) fun x hx => by subst hx; exact p
    cases hx : itemsOf v.fz with
    | none => rw [hx] at k; cases k
    | some xs =>
      rw [hx] at k
      cases k
      exact ⟨Hf1, v.fz, xs, r, st.er.sub, hx, fun J w => p J Hf1 H1 (fun Hf' H' => Same Hf1 Hf') st (w _ fun Hf' H' s' e => r.same_mono e s') fun Hf' H' e => e⟩
  refine thn (he.run pins s σ H _ I q2) fun u s1 ⟨v, H1, I1, rv, Hf1, d, xs, r, sh, hx, q3⟩ => ?_
  exact pi_data I1 rv (.of sh r) sh hx q3⟩
theorem RB.ofSR {G : Gm} {v : V} {e : EV} {xs : List Ev.D} (s : Same Hf H) (h : SR G Hf H v e) (hx : itemsB e = some xs) : RB G Hf H v e.fz := by
  cases e with
  | fr d => exact .of s h
  | ow ys => obtain ⟨a, vs, q1, q2, q3, q4⟩ := h; exact ⟨a, vs, q1, q3, q4⟩
  | oi c ns ys => cases hx
  | tb xss => cases hx
theorem itemsB_of {e : EV} {xs : List Ev.D} (h : itemsB e = some xs) : itemsOf e.fz = some xs := by
  cases e <;> first | exact h | cases h
theorem i_bor (he : PE X e (tVar i)) : PI X tg e (TIt T X.K W (evI P C (.seq (.bor i)))) := ⟨fun pins s σ H Rr I q => by
  obtain ⟨ρ, Hf, res, E, h, p⟩ := q
  rw [evI] at h
  cases hg : get ρ i with
  | none => rw [hg] at h; cases h
  | some e0 =>
    rw [hg] at h
    dsimp only at h
    cases hx : itemsB e0 with
    | none => rw [hx] at h; cases h
    | some xs =>
      rw [hx] at h
      cases h
      obtain ⟨v, g1, g2⟩ := E.slot i _ (get_some hg)
      refine thn (he.run pins s σ H (fun u H1 => u = v ∧ H1 = H) I ⟨v, g1, rfl, rfl⟩) fun u s1 ⟨w, H1, I1, rv, e1, e2⟩ => ?_
      subst e1; subst e2
      exact pi_data I1 rv (.ofSR E.sub g2 hx) E.sub (itemsB_of hx) fun J wk => p J Hf H1 (fun Hf' H' => SR (T.gm X.K) Hf' H' w e0) (.refl E) (wk _ fun Hf' H' s' z => .ofSR s' z hx) ⟨e0, w, hg, g1, fun Hf' H' z => z⟩⟩
/-- range(..) -/
theorem rngOk_ok {i : Int} (h : rngOk i = true) : -(2 ^ 62) ≤ i ∧ i < 2 ^ 62 := by
  unfold rngOk at h
  have h1 := of_decide_eq_true h
  have h2 : i.natAbs < 2 ^ 40 := by
    by_cases z : i.natAbs = 0
    · rw [z]; decide
    · exact (Nat.log2_lt z).mp (by omega)
  omega
theorem rngOk_of {i : Int} (h1 : -100000 ≤ i) (h2 : i ≤ 100000) : rngOk i = true := by
  unfold rngOk
  refine decide_eq_true ?_
  by_cases z : i.natAbs = 0
  · rw [z]; decide
  · have := (Nat.log2_lt z (k := 40)).mpr (by omega)
    omega
def RngQ (T : Tx) (K : PySem.W.Frag) (W : WX) (σ : St) (vs : List V) (H : Hp) (Rr : L2.It → Hp → Prop) : Prop :=
  (∃ n : Int, vs = [.int n] ∧ -(2 ^ 62) ≤ n ∧ n < 2 ^ 62 ∧ Rr (Itr 0 n.toNat) H) ∨ (∃ a b : Int, vs = [.int a, .int b] ∧ (-(2 ^ 62) ≤ a ∧ a < 2 ^ 62 ∧ -(2 ^ 62) ≤ b ∧ b < 2 ^ 62) ∧ Rr (Itr a (b - a).toNat) H)
theorem rng_tl {es' : Es} {Rr : L2.It → Hp → Prop} (q : TIt T X.K W (evI P C (.rng es')) σ H Rr) : TL T X.K W (evl P C es') σ H fun vs H1 => RngQ T X.K W σ vs H1 Rr := by
  obtain ⟨ρ, Hf, res, E, h, p⟩ := q
  rw [evI] at h
  refine TL.bind E h (fun ods ρ1 vs Hf1 H1 k st ors => ?_) fun x hx => by subst hx; exact p
  split at k
  · rename_i n hv
    have rb := RBs.views st.er ors hv
    by_cases hn : rngOk n = true
    · rw [if_pos hn] at k
      cases k
      cases rb with
      | cons r1 r2 =>
        cases r2
        rw [r1.inv_int]
        exact .inl ⟨n, rfl, (rngOk_ok hn).1, (rngOk_ok hn).2, p _ Hf1 H1 (fun _ _ => True) st itr_walks fun _ _ _ => trivial⟩
    · rw [if_neg hn] at k; cases k
  · rename_i a b hv
    have rb := RBs.views st.er ors hv
    by_cases hn : (rngOk a && rngOk b) = true
    · rw [if_pos hn] at k
      cases k
      rw [Bool.and_eq_true] at hn
      cases rb with
      | cons r1 r2 =>
        cases r2 with
        | cons r2 r3 =>
          cases r3
          rw [r1.inv_int, r2.inv_int]
          exact .inr ⟨a, b, rfl, ⟨(rngOk_ok hn.1).1, (rngOk_ok hn.1).2, (rngOk_ok hn.2).1, (rngOk_ok hn.2).2⟩, p _ Hf1 H1 (fun _ _ => True) st itr_walks fun _ _ _ => trivial⟩
    · rw [if_neg hn] at k; cases k
  · cases k
theorem i_rng {es : List Expr} {e0 : Expr} {es' : Es} {pp : Pos} (hl : es.length ≤ 1) (hg : Gl X ("range" : Str)) (hm : X.mg ("range" : Str) = none) (ha : PA X (e0 :: es) (TL T X.K W (evl P C es'))) (hs : (e0 :: es).all notStar = true) :
    PI X tg (.Call (.Name ("range" : Str) pp) (e0 :: es) [] pos) (TIt T X.K W (evI P C (.rng es'))) := ⟨fun pins s σ H Rr I q => by
  rw [List.all_cons, Bool.and_eq_true] at hs
  refine PyProof.Rows.Call_ (ld_blt I hg hm PyProof.Rows.boot_range (PyProof.Rows.callWith_type1 (thn (ha.run pos pins s σ H _ I (rng_tl q)) fun us s1 ⟨vs, H1, I1, r1, q1⟩ => ?_) (starE hs.1) (starA hs.2)))
  rcases q1 with ⟨n, e, q1, q2, q⟩ | ⟨a, b, e, ⟨q1, q2, q3, q4⟩, q⟩
  · subst e
    cases r1 with
    | cons r rr =>
      cases rr
      obtain ⟨t, rfl⟩ := r
      exact call_range_1 (range_it I1 (by omega) (by omega) q1 q2 (by simpa using q))
  · subst e
    cases r1 with
    | cons r rr =>
      cases rr with
      | cons r' rr =>
        cases rr
        obtain ⟨t, rfl⟩ := r
        obtain ⟨t', rfl⟩ := r'
        exact call_range_2 (range_it I1 q1 q2 q3 q4 q)⟩
end
end Ev
/-! Ev 17: raise, try. -/
namespace Ev
open PySem PySem.Spec L2
section
variable {T : Tx} {P : Prog} {C : Orc} {L : Nat} {X : Cx} {W : WX} {mu : List Nat} {D : Ends} {σ σ1 : St} {ρ ρ1 : EnvD} {Hf H Hf1 H1 : Hp} {pins : List (Addr × Obj)} {s : Shared}
variable {e : Expr} {e' : E} {pos : Pos} {i : Nat} {x : Str} {p' : Pos}
/-- raise C('..') -/
theorem s_raise (ok : Cok T P C L X W) {c j : Nat} {m : Str} {p p2 pos' : Pos} (hx : x = T.cn c) (ho : T.xo c = true) (hg : Gl X x) (hdb : (x == ("__debug__" : Str)) = false) :
    PS X (.Raise (some (.Call (.Name x p) [.Constant (.str m) j p2] [] pos)) none pos') (TSt T X.K W mu (exec P C (.raise c (.cons (.cst (.str m)) .nil)) mu)) := by
  obtain ⟨⟨B, newId, initId, bmB, F, q⟩, hm, hk, h1, h2, hxf⟩ := ok.fac.exO c ho
  rw [← hx] at hm
  refine (ps_raise ok.calm ok.takes (pmk_own F q hm hk (raises_own h1 h2) hg hdb)).weak fun D σ H q => ?_
  obtain ⟨ρ, Hf, res, E, h, p⟩ := q
  have h' : some (Ev.F.ex (.mk c (.str m))) = some res := by
    rw [exec] at h
    exact h
  cases h'
  exact p σ _ none Hf H (Stp.refl E).toNil .refl ⟨rfl, by rw [hxf]⟩

/-! ### what a suite says -/
/-- a suite's expression -/
def tSu (T : Tx) (P : Prog) (K : PySem.W.Frag) (i : Option Nat) (a : Addr) (cls : Value) (d : Option Addr) (u : Su) : TE := fun σ H Q => (∀ j, i = some j → σ[j]? = some (some (.ref a))) ∧ ∃ Hf x v, Same Hf H ∧ XR T x cls d H ∧ suE P u x = some v ∧
  ∀ Hf' H' vv, Gr Hf H Hf' H' → Rep (T.gm K) Hf' vv v → Q vv H'
theorem XR.grow {T : Tx} {x : Exn} {cls : Value} {d : Option Addr} (e : Same H H1) (h : XR T x cls d H) : XR T x cls d H1 := by
  cases x with
  | mk c y =>
    obtain ⟨h1, h2⟩ := h
    refine ⟨h1, ?_⟩
    cases hx : T.xf c with
    | none => rw [hx] at h2; exact h2
    | some f =>
      rw [hx] at h2
      obtain ⟨h2, a, h3, h4⟩ := h2
      exact ⟨h2, a, h3, e _ _ h4⟩
theorem suE_bl {u : Su} {x : Exn} {v : Ev.D} (h : suE P u x = some v) (hu : (∃ cs, u = .isa cs) ∨ u = .ve ∨ (∃ w, u = .not w)) : ∃ b, v = .bl b := by
  rcases hu with ⟨cs, rfl⟩ | rfl | ⟨w, rfl⟩
  · cases x with
    | mk c d =>
      simp only [suE] at h
      split at h
      · cases hk : isaX P c cs with
        | none => rw [hk] at h; cases h
        | some b => rw [hk] at h; cases h; exact ⟨b, rfl⟩
      · cases h
  · cases x with
    | mk c d =>
      simp only [suE] at h
      split at h <;> cases h
      exact ⟨true, rfl⟩
  · simp only [suE] at h
    split at h
    · cases h; exact ⟨_, rfl⟩
    · cases h
/-- the suite's name of the error is an expression -/
def okSuN (n : Option Str) : Expr → Bool
  | .Name y _ => n == some y && !(y == ("__debug__" : Str)) && !(y == ("__classdict__" : Str))
  | _ => false
def okCon : Ev.D → Expr → Bool
  | .non, .Constant .none _ _ => true
  | .bl b, .Constant (.bool b') _ _ => b == b'
  | .int i, .Constant (.int i') _ _ => decide (i = i')
  | .str x, .Constant (.str x') _ _ => x == x'
  | _, _ => false
theorem okCon_pe {X : Cx} {d : Ev.D} {e : Expr} (h : okCon d e = true) : atom d = true ∧ PE X e (tC (atomV d)) := by
  cases e with
  | Constant c j p =>
    cases d with
    | non => cases c <;> first | exact ⟨rfl, pe_non⟩ | cases h
    | bl b => cases c <;> first | (rename_i b'; cases eq_of_beq (show (b == b') = true from h); exact ⟨rfl, pe_bl⟩) | cases h
    | int b => cases c <;> first | (rename_i b'; cases of_decide_eq_true (show decide (b = b') = true from h); exact ⟨rfl, pe_int⟩) | cases h
    | str b => cases c <;> first | (rename_i b'; cases eq_of_beq (show (b == b') = true from h); exact ⟨rfl, pe_str⟩) | cases h
    | _ => cases h
  | _ => cases d <;> cases h
def call2 : Expr → Option (Str × Expr × Expr)
  | .Call (.Name f _) [a, b] [] _ => some (f, a, b)
  | _ => none
theorem call2_eq {e : Expr} {r : Str × Expr × Expr} (h : call2 e = some r) : ∃ p q, e = .Call (.Name r.1 p) [r.2.1, r.2.2] [] q := by
  unfold call2 at h
  split at h
  · cases h; exact ⟨_, _, rfl⟩
  · cases h
/-- the first of a chain, the others -/
def chain2 (op : BoolOp) : Expr → Option (Expr × Expr)
  | .BoolOp op' (a :: b :: r) p => if op' = op then some (a, match r with | [] => b | _ => .BoolOp op (b :: r) p) else none
  | _ => none
theorem chain2_eq {op : BoolOp} {e : Expr} {r : Expr × Expr} (h : chain2 op e = some r) : ∃ b t p, e = .BoolOp op (r.1 :: b :: t) p ∧ (r.2 = b ∧ t = [] ∨ r.2 = .BoolOp op (b :: t) p) := by
  unfold chain2 at h
  split at h
  · rename_i op' a b t p
    split at h
    · rename_i e1
      subst e1
      cases h
      refine ⟨b, t, p, rfl, ?_⟩
      cases t with
      | nil => exact .inl ⟨rfl, rfl⟩
      | cons _ _ => exact .inr rfl
    · cases h
  · cases h
def not1 : Expr → Option Expr
  | .UnaryOp .Not a _ => some a
  | _ => none
theorem not1_eq {e a : Expr} (h : not1 e = some a) : ∃ p, e = .UnaryOp .Not a p := by
  unfold not1 at h
  split at h
  · cases h; exact ⟨_, rfl⟩
  · cases h
def ty1 (T : Tx) (gl : Str → Bool) (b : Expr) : List Ty → Bool
  | [t] => okTy T gl t b
  | _ => false
/-- the classes that isinstance asks for, as they are written -/
def okCls (T : Tx) (gl : Str → Bool) (ts : List Ty) (b : Expr) : Bool := match b with
  | .Tuple bs _ _ => !ts.isEmpty && decide (ts.length ≤ 100) && okTys T gl ts bs
  | b => ty1 T gl b ts
theorem okCls_cases {T : Tx} {gl : Str → Bool} {ts : List Ty} {b : Expr} (h : okCls T gl ts b = true) : (∃ bs k p, b = .Tuple bs k p ∧ ts ≠ [] ∧ ts.length ≤ 100 ∧ okTys T gl ts bs = true) ∨ (∃ t y p, ts = [t] ∧ b = .Name y p ∧ okTy T gl t b = true) := by
  have other : ty1 T gl b ts = true → ∃ t y p, ts = [t] ∧ b = .Name y p ∧ okTy T gl t b = true := fun h => by
    cases ts with
    | nil => cases h
    | cons t r =>
      cases r with
      | nil =>
        have h' : okTy T gl t b = true := h
        cases b with
        | Name y p => exact ⟨t, y, p, rfl, rfl, h'⟩
        | _ => cases t <;> cases h'
      | cons _ _ => cases h
  cases b with
  | Tuple bs k p =>
    have h' : (!ts.isEmpty && decide (ts.length ≤ 100) && okTys T gl ts bs) = true := h
    simp only [Bool.and_eq_true, decide_eq_true_eq, Bool.not_eq_true'] at h'
    exact .inl ⟨bs, k, p, rfl, fun z => by rw [z] at h'; exact absurd h'.1.1 (by simp), h'.1.2, h'.2⟩
  | _ => exact .inr (other h)
def isNm (x : Str) : Expr → Bool
  | .Name y _ => y == x
  | _ => false
theorem isNm_eq {x : Str} {e : Expr} (h : isNm x e = true) : ∃ p, e = .Name x p := by
  cases e with
  | Name y p => exact ⟨p, by rw [eq_of_beq (show (y == x) = true from h)]⟩
  | _ => cases h
/-- a suite's expression as it is written; gl: the global names -/
def okSu (T : Tx) (n : Option Str) (gl : Str → Bool) : Su → Expr → Bool
  | .cst d, e => okCon d e
  | .isa cs, e => match call2 e with
    | some (f, a, b) => f == ("isinstance" : Str) && gl f && okSuN n a && okCls T gl (cs.map Ty.cls) b
    | none => false
  | .ve, e => match call2 e with
    | some (f, a, b) => f == ("isinstance" : Str) && gl f && okSuN n a && isNm ("ValueError" : Str) b && gl ("ValueError" : Str)
    | none => false
  | .and u w, e => match chain2 .And e with
    | some (a, b) => okSu T n gl u a && okSu T n gl w b
    | none => false
  | .not u, e => match not1 e with
    | some a => okSu T n gl u a
    | none => false
  | _, _ => false
section
variable {a : Addr} {oe : Obj} {cls : Value} {d : Option Addr} {pn : List (Addr × Obj)} {n : Option Str} {gl : Str → Bool} {si : Option Nat}
/-- the suite's name has its slot -/
def SuN (X : Cx) (n : Option Str) (si : Option Nat) : Prop := ∀ y, n = some y → ∃ j, si = some j ∧ X.N[j]? = some y ∧ Vis X.env.scope y
theorem okSuN_pe (hz : SuN X n si) {e : Expr} (h : okSuN n e = true) : ∃ j, si = some j ∧ PE (X.suite a ((a, oe) :: pn)) e (tVar j) ∧ notStar e = true := by
  cases e with
  | Name y p =>
    have h' : (n == some y && !(y == ("__debug__" : Str)) && !(y == ("__classdict__" : Str))) = true := h
    simp only [Bool.and_eq_true, Bool.not_eq_true'] at h'
    obtain ⟨⟨h1, h2⟩, h3⟩ := h'
    obtain ⟨j, hj, g1, g2⟩ := hz y (eq_of_beq h1)
    exact ⟨j, hj, pe_var (X := X.suite a ((a, oe) :: pn)) g1 g2 h2 h3, rfl⟩
  | _ => cases h
theorem suite_inst {s : Shared} {σ : St} {H : Hp} {pins : List (Addr × Obj)} {Dc : Addr} (I : Inv (X.suite a ((a, oe) :: pn)) pins σ H s) (hz : Zc (.ref Dc) none oe) (hf : ∃ vs, oe.data = .fields vs) : PySem.W.InstAt s.heap a oe Dc none := by
  obtain ⟨hget, _⟩ := I.pin (a, oe) (List.mem_append.mpr (.inl List.mem_cons_self))
  obtain ⟨vs, hv⟩ := hf
  obtain ⟨oc, od, oda, osl⟩ := oe
  obtain ⟨h1, h2⟩ := hz
  dsimp only at h1 h2 hv
  subst h1 h2 hv
  exact ⟨hget, rfl, rfl, trivial⟩
theorem su_isa1 (fac : Fac T P X.K X.mg) (hn : SuN X n si) (hgl : ∀ x, gl x = true → Gl X x) (hz : Zc cls d oe) (hf : ∃ vs, oe.data = .fields vs) {c : Nat} {ea : Expr} {f y : Str} {fp ap yp : Pos} (hfn : f = ("isinstance" : Str)) (hg : gl f = true) (ha : okSuN n ea = true)
    (hb : okTy T gl (.cls c) (.Name y yp) = true) : PE (X.suite a ((a, oe) :: pn)) (.Call (.Name f fp) [ea, .Name y yp] [] ap) (tSu T P X.K si a cls d (.isa [c])) := ⟨fun pins s σ H Q I q => by
  subst hfn
  obtain ⟨j, hj, pa, hst⟩ := okSuN_pe hn ha
  have pb : PE (X.suite a ((a, oe) :: pn)) (.Name y yp) (tC (tyVV T (.cls c))) := okTy_pe (X := X.suite a ((a, oe) :: pn)) fac hgl hb
  obtain ⟨hi, Hf, x, v, sh, xr, hs, fin⟩ := q
  cases x with
  | mk cx yx =>
  simp only [suE] at hs
  split at hs
  · rename_i hc
    obtain ⟨c1, c2, c3⟩ := hc
    obtain ⟨ec, _⟩ := fac.exC cx c1
    obtain ⟨x1, x2⟩ := xr
    rw [fac.xf, c2] at x2
    cases hk : isaX P cx [c] with
    | none => rw [hk] at hs; cases hs
    | some b =>
    rw [hk] at hs
    cases hs
    have pall : PA (X.suite a ((a, oe) :: pn)) [ea, .Name y yp] (tCons (tVar j) (tCons (tC (tyVV T (.cls c))) tNil)) := pa_cons pa (pa_cons pb pa_nil rfl) (starE hst)
    refine wpAny_Call_Name_kw (ld_blt I (hgl _ hg) (fac.blt _ (by decide +kernel)) (u := .builtin "isinstance") (by decide +kernel) ?_ (by decide +kernel) (by decide +kernel))
    refine PyProof.Rows.callWith_builtin1 (thn (pall.run ap pins s σ H (fun vs H1 => vs = [.ref a, tyVV T (.cls c)] ∧ H1 = H) I ⟨_, hi j hj, rfl, rfl⟩) fun us s1 ⟨vs, H1, I1, rs, e1, e2⟩ => ?_) (starE hst) rfl
    subst e1; subst e2
    obtain ⟨u1, u2, rfl, r1, r2⟩ := vals2 rs
    cases (show u1 = Value.ref a from r1)
    have e3 := (tyV_cls T (.cls c)).eq r2
    subst e3
    rw [x1, x2] at hz
    have J := suite_inst I1 hz hf
    have hk1 := isaX_kit fac hk
    have hk2 : PySem.W.kitOne X.K (.ref (T.ca cx)) (.ref (T.ca c)) = some b := by
      have h2 : (match PySem.W.kitOne X.K (.ref (T.ca cx)) (.ref (T.ca c)) with | some true => some true | some false => some false | none => none) = some b := hk1
      cases z : PySem.W.kitOne X.K (.ref (T.ca cx)) (.ref (T.ca c)) with
      | none => rw [z] at h2; cases h2
      | some b' => rw [z] at h2; cases b' <;> exact h2
    exact PySem.W.kia_one (PySem.W.handS_kitx_exc ec.hg ec.hk ec.hs ec.hd ec.ha ec.hn ec.ht ec.hm) I1.kIn J hk2 (fun z => nomatch z) fun tk => ⟨.bl b, H1, I1.kept (t' := tk) fun _ _ z => z, rfl, fin Hf H1 _ (.refl sh) (.bl b)⟩
  · cases hs⟩
theorem su_isaT (fac : Fac T P X.K X.mg) (hn : SuN X n si) (hgl : ∀ x, gl x = true → Gl X x) (hz : Zc cls d oe) (hf : ∃ vs, oe.data = .fields vs) {cs : List Nat} {ea : Expr} {f : Str} {bs : List Expr} {k2 : Nat} {fp ap yp : Pos} (hfn : f = ("isinstance" : Str)) (hg : gl f = true) (ha : okSuN n ea = true)
    (hl : cs.length ≤ 100) (hb : okTys T gl (cs.map Ty.cls) bs = true) : PE (X.suite a ((a, oe) :: pn)) (.Call (.Name f fp) [ea, .Tuple bs k2 yp] [] ap) (tSu T P X.K si a cls d (.isa cs)) := ⟨fun pins s σ H Q I q => by
  subst hfn
  obtain ⟨j, hj, pa, hst⟩ := okSuN_pe hn ha
  have pb : PA (X.suite a ((a, oe) :: pn)) bs (tCs ((cs.map Ty.cls).map (tyVV T))) := okTys_pa (X := X.suite a ((a, oe) :: pn)) fac hgl hb
  obtain ⟨hi, Hf, x, v, sh, xr, hs, fin⟩ := q
  cases x with
  | mk cx yx =>
  simp only [suE] at hs
  split at hs
  · rename_i hc
    obtain ⟨c1, c2, c3⟩ := hc
    obtain ⟨ec, _⟩ := fac.exC cx c1
    obtain ⟨x1, x2⟩ := xr
    rw [fac.xf, c2] at x2
    cases hk : isaX P cx cs with
    | none => rw [hk] at hs; cases hs
    | some b =>
    rw [hk] at hs
    cases hs
    have pall : PA (X.suite a ((a, oe) :: pn)) [ea, .Tuple bs k2 yp] (tCons (tVar j) (tCons (tTup (tCs ((cs.map Ty.cls).map (tyVV T)))) tNil)) := pa_cons pa (pa_cons (pe_tup pb) pa_nil rfl) (starE hst)
    refine wpAny_Call_Name_kw (ld_blt I (hgl _ hg) (fac.blt _ (by decide +kernel)) (u := .builtin "isinstance") (by decide +kernel) ?_ (by decide +kernel) (by decide +kernel))
    refine PyProof.Rows.callWith_builtin1 (thn (pall.run ap pins s σ H (fun vs H1 => ∃ tp, vs = [.ref a, .ref tp] ∧ H tp = none ∧ H1 = upd H tp (.tup ((cs.map Ty.cls).map (tyVV T)))) I ⟨_, hi j hj, ?_, fun tp htp => ⟨tp, rfl, htp, rfl⟩⟩) fun us s1 ⟨vs, H1, I1, rs, tp, e1, htp, e2⟩ => ?_) (starE hst) rfl
    · rw [List.length_map, List.length_map, sizeLine_eq]; omega
    subst e1
    obtain ⟨u1, u2, rfl, r1, r2⟩ := vals2 rs
    cases (show u1 = Value.ref a from r1)
    cases (show u2 = Value.ref tp from r2)
    have gr : Gr Hf H Hf H1 := by rw [e2]; exact .loose sh htp
    have hT : H1 tp = some (.tup ((cs.map Ty.cls).map (tyVV T))) := by rw [e2]; exact upd_same
    obtain ⟨_, its, rv, o, h1, h2, n2, h3⟩ := (show ObjOk X.prog X.w H1 s1.heap tp (.tup ((cs.map Ty.cls).map (tyVV T))) from I1.hok tp _ hT)
    have e3 := ClsV.all (isa_paired T (cs.map Ty.cls)) rv
    subst e3
    obtain ⟨oc, od, dt, sl⟩ := o
    simp only at h2 h3
    subst h2 h3
    rw [x1, x2] at hz
    have J := suite_inst I1 hz hf
    exact PySem.W.kia_tup (PySem.W.handS_kitx_exc ec.hg ec.hk ec.hs ec.hd ec.ha ec.hn ec.ht ec.hm) I1.kIn J h1 (isaX_kit fac hk) (fun z => nomatch z) fun tk => ⟨.bl b, H1, I1.kept (t' := tk) fun _ _ z => z, rfl, fin Hf H1 _ gr (.bl b)⟩
  · cases hs⟩
theorem su_ve (fac : Fac T P X.K X.mg) (hn : SuN X n si) (hgl : ∀ x, gl x = true → Gl X x) (hz : Zc cls d oe) (hf : ∃ vs, oe.data = .fields vs) {ea : Expr} {f y : Str} {fp ap yp : Pos} (hfn : f = ("isinstance" : Str)) (hg : gl f = true) (ha : okSuN n ea = true)
    (hy : y = ("ValueError" : Str)) (hgy : gl y = true) : PE (X.suite a ((a, oe) :: pn)) (.Call (.Name f fp) [ea, .Name y yp] [] ap) (tSu T P X.K si a cls d .ve) := ⟨fun pins s σ H Q I q => by
  subst hfn; subst hy
  obtain ⟨j, hj, pa, hst⟩ := okSuN_pe hn ha
  have pb : PE (X.suite a ((a, oe) :: pn)) (.Name ("ValueError" : Str) yp) (tC (.ty "ValueError")) := pe_bltn (X := X.suite a ((a, oe) :: pn)) (hgl _ hgy) (fac.blt _ (by decide +kernel)) (by decide +kernel) rfl (by decide +kernel) (by decide +kernel)
  obtain ⟨hi, Hf, x, v, sh, xr, hs, fin⟩ := q
  cases x with
  | mk cx yx =>
  simp only [suE] at hs
  split at hs
  · rename_i hc
    obtain ⟨c1, c2⟩ := hc
    obtain ⟨ec, hk⟩ := fac.exC cx c1
    obtain ⟨x1, x2⟩ := xr
    rw [fac.xf, c2] at x2
    cases hs
    have pall : PA (X.suite a ((a, oe) :: pn)) [ea, .Name ("ValueError" : Str) yp] (tCons (tVar j) (tCons (tC (.ty "ValueError")) tNil)) := pa_cons pa (pa_cons pb pa_nil rfl) (starE hst)
    refine wpAny_Call_Name_kw (ld_blt I (hgl _ hg) (fac.blt _ (by decide +kernel)) (u := .builtin "isinstance") (by decide +kernel) ?_ (by decide +kernel) (by decide +kernel))
    refine PyProof.Rows.callWith_builtin1 (thn (pall.run ap pins s σ H (fun vs H1 => vs = [.ref a, .ty "ValueError"] ∧ H1 = H) I ⟨_, hi j hj, rfl, rfl⟩) fun us s1 ⟨vs, H1, I1, rs, e1, e2⟩ => ?_) (starE hst) rfl
    subst e1; subst e2
    obtain ⟨u1, u2, rfl, r1, r2⟩ := vals2 rs
    cases (show u1 = Value.ref a from r1)
    cases (show u2 = Value.type "ValueError" from r2)
    rw [x1, x2] at hz
    have J := suite_inst I1 hz hf
    exact PySem.W.kia_one (PySem.W.handS_kitx_exc ec.hg ec.hk ec.hs ec.hd ec.ha ec.hn ec.ht ec.hm) I1.kIn J hk (fun z => nomatch z) fun tk => ⟨.bl true, H1, I1.kept (t' := tk) fun _ _ z => z, rfl, fin Hf H1 _ (.refl sh) (.bl true)⟩
  · cases hs⟩
theorem Gr.rep {G : Gm} {Hf' H' : Hp} {v : V} {d : Ev.D} (g : Gr Hf H Hf' H') (r : Rep G Hf v d) : Rep G Hf' v d := r.mono g.ext
theorem su_ok (fac : Fac T P X.K X.mg) (hn : SuN X n si) (hgl : ∀ x, gl x = true → Gl X x) (hz : Zc cls d oe) (hf : ∃ vs, oe.data = .fields vs) : ∀ {u : Su} {e : Expr}, okSu T n gl u e = true → PE (X.suite a ((a, oe) :: pn)) e (tSu T P X.K si a cls d u)
  | .cst dd, e, h => by
    obtain ⟨h1, h2⟩ := okCon_pe (X := X.suite a ((a, oe) :: pn)) (show okCon dd e = true from h)
    refine h2.weak fun σ H Q q => ?_
    obtain ⟨hi, Hf, x, v, sh, xr, hs, fin⟩ := q
    simp only [suE] at hs
    rw [if_pos h1] at hs
    cases hs
    exact fin Hf H _ (.refl sh) (Rep.atomV h1)
  | .isa cs, e, h => by
    unfold okSu at h
    split at h
    · rename_i f ea eb hc
      obtain ⟨p, q, rfl⟩ := call2_eq hc
      simp only [Bool.and_eq_true] at h
      obtain ⟨⟨⟨h1, h2⟩, h3⟩, h4⟩ := h
      rcases okCls_cases h4 with ⟨bs, k, p, e1, e2, e3, e4⟩ | ⟨t, y, p, e1, e2, e3⟩
      · subst e1
        exact su_isaT fac hn hgl hz hf (eq_of_beq h1) h2 h3 (by simpa using e3) e4
      · subst e2
        cases cs with
        | nil => cases e1
        | cons c r =>
          cases r with
          | nil => cases e1; exact su_isa1 fac hn hgl hz hf (eq_of_beq h1) h2 h3 e3
          | cons _ _ => cases e1
    · cases h
  | .ve, e, h => by
    unfold okSu at h
    split at h
    · rename_i f ea eb hc
      obtain ⟨p, q, rfl⟩ := call2_eq hc
      simp only [Bool.and_eq_true] at h
      obtain ⟨⟨⟨⟨h1, h2⟩, h3⟩, h4⟩, h5⟩ := h
      obtain ⟨p, e1⟩ := isNm_eq h4
      subst e1
      exact su_ve fac hn hgl hz hf (eq_of_beq h1) h2 h3 rfl h5
    · cases h
  | .and u w, e, h => by
    unfold okSu at h
    obtain ⟨a1, b1, r, p, b2, rfl, h', hb2⟩ : ∃ a1 b1 r p b2, e = .BoolOp .And (a1 :: b1 :: r) p ∧ (okSu T n gl u a1 && okSu T n gl w b2) = true ∧ (b2 = b1 ∧ r = [] ∨ b2 = .BoolOp .And (b1 :: r) p) := by
      split at h
      · rename_i a1 b2 hc
        obtain ⟨b, t, p, e1, e2⟩ := chain2_eq hc
        exact ⟨a1, b, t, p, b2, e1, h, e2⟩
      · cases h
    rw [Bool.and_eq_true] at h'
    have pu := su_ok fac hn hgl hz hf h'.1
    have pw := su_ok fac hn hgl hz hf h'.2
    have pw' : PE (X.suite a ((a, oe) :: pn)) (.BoolOp .And (b1 :: r) p) (tSu T P X.K si a cls d w) := by
      rcases hb2 with ⟨rfl, rfl⟩ | rfl
      · exact pe_one pw
      · exact pw
    refine (pe_andT pu pw').weak fun σ H Q q => ?_
    obtain ⟨hi, Hf, x, v, sh, xr, hs, fin⟩ := q
    simp only [suE] at hs
    cases hu : suE P u x with
    | none => rw [hu] at hs; cases hs
    | some vu =>
      rw [hu] at hs
      refine ⟨hi, Hf, x, vu, sh, xr, hu, fun Hf' H' vv g r => ?_⟩
      cases vu with
      | bl bb =>
        cases r
        refine ⟨bb, rfl, ?_⟩
        cases bb with
        | true =>
          rw [if_pos rfl]
          exact ⟨hi, Hf', x, v, g.sub, xr.grow g.grow, hs, fun Hf2 H2 vv g2 r2 => fin Hf2 H2 vv (g.trans g2) r2⟩
        | false =>
          cases hs
          rw [if_neg Bool.false_ne_true]
          exact fin Hf' H' _ g (.bl false)
      | _ => cases hs
  | .not u, e, h => by
    unfold okSu at h
    obtain ⟨a1, p, rfl, h'⟩ : ∃ a1 p, e = .UnaryOp .Not a1 p ∧ okSu T n gl u a1 = true := by
      split at h
      · rename_i a1 hc
        obtain ⟨p, e1⟩ := not1_eq hc
        exact ⟨a1, p, e1, h⟩
      · cases h
    refine (pe_notT (su_ok fac hn hgl hz hf h')).weak fun σ H Q q => ?_
    obtain ⟨hi, Hf, x, v, sh, xr, hs, fin⟩ := q
    simp only [suE] at hs
    cases hu : suE P u x with
    | none => rw [hu] at hs; cases hs
    | some vu =>
      rw [hu] at hs
      refine ⟨hi, Hf, x, vu, sh, xr, hu, fun Hf' H' vv g r => ?_⟩
      cases vu with
      | bl bb =>
        cases hs
        cases r
        exact ⟨bb, rfl, fin Hf' H' _ g (.bl _)⟩
      | _ => cases hs
  | .eq _ _, e, h => by cases h
  | .fld _, e, h => by cases h
  | .tup _, e, h => by cases h
end
/-! ### try -/
theorem handle_ret {c : Nat} {u : Su} {x : Exn} {res : Ev.F} (h : handle P x ρ (.ret c u .nil) = some res) : ∃ cx y, x = .mk cx y ∧ ((P.sub cx c = some true ∧ ∃ v, suE P u x = some v ∧ res = .rt (.fr v) []) ∨ (P.sub cx c = some false ∧ res = .ex x)) := by
  cases x with
  | mk cx y =>
    refine ⟨cx, y, rfl, ?_⟩
    simp only [handle] at h
    cases hs : P.sub cx c with
    | none => rw [hs] at h; cases h
    | some b =>
      rw [hs] at h
      cases b with
      | true =>
        dsimp only at h
        cases hu : suE P u (.mk cx y) with
        | none => rw [hu] at h; cases h
        | some v => rw [hu] at h; cases h; exact .inl ⟨rfl, v, rfl, rfl⟩
      | false => cases h; exact .inr ⟨rfl, rfl⟩
theorem Gr.nil {Hf' H' : Hp} {G : Gm} (s : Stp G σ ρ Hf H σ1 [] Hf1 H1) (g : Gr Hf1 H1 Hf' H') : Stp G σ ρ Hf H σ1 [] Hf' H' := s.trans (g.stp s.er)
section
variable {c : Nat} {u : Su} {body : List Stmt} {b' : Ss} {ue : Expr} {n : Str} {gl : Str → Bool} {np rp pos' : Pos}
theorem s_try_as (ok : Cok T P C L X W) (hs : X.stack = X.env :: X.outer) (hf : X.env.frame = some X.env.locals) (hi : X.N[i]? = some n) (hln : X.env.scope.names.lookup n = some .local) (hgl : ∀ x, gl x = true → Gl X x) (hx : x = T.cn c) (hh : T.xh c = true) (hg : Gl X x) (hdb : (x == ("__debug__" : Str)) = false)
    (hb : ∀ (W' : WX) (pn : List (Addr × Obj)) (xe : Value → Shared → Prop), Takes (X.tr pn xe) W' → PassesOwn (model X.prog X.w) X.A X.env xe → PSs (X.tr pn xe) body (TSt T X.K W' mu (execs P C b' mu)))
    (hu : okSu T (some n) gl u ue = true) :
    PS X (.Try body [.ExceptHandler (some (.Name x np)) (some n) [.Return (some ue) rp] pos'] [] [] pos) (TSt T X.K W mu (exec P C (.try_ b' (.ret c u .nil)) mu)) := by
  obtain ⟨f1, f2, f3, f4⟩ := ok.fac.exH c hh
  refine ⟨fun pins s σ H D I q => ?_⟩
  refine (ps_try_as (c := .ref (T.ca c)) (Wout := W) (tb := fun W' => TSt T X.K W' mu (execs P C b' mu)) (ts := fun a cls d => tRet (tSu T P X.K (some i) a cls d u)) hs hf ok.nd hi hln ⟨hg, hdb, .inl (hx ▸ f1)⟩ ok.takes hb
    (fun a oe cls d pn hz hv => pss_one (ps_ret (su_ok ok.fac (fun y hy => ⟨i, rfl, by cases hy; exact hi, by cases hy; exact .inl hln⟩) hgl hz hv hu)))).run pins s σ H D I ?_
  obtain ⟨ρ, Hf, res, E, h, p⟩ := q
  rw [exec] at h
  cases hx2 : execs P C b' mu ρ with
  | none => rw [hx2] at h; cases h
  | some r =>
  rw [hx2] at h
  refine ⟨ρ, Hf, r, E, hx2, ?_⟩
  cases r with
  | nx ρ1 => cases h; exact p
  | rt v ρ1 => cases h; exact p
  | ex x =>
    have h' : handle P x ρ (.ret c u .nil) = some res := h
    obtain ⟨cx, y, rfl, hc⟩ := handle_ret h'
    intro σ' cls d Hf' H' st ks xr
    have hcls : cls = .ref (T.ca cx) := xr.1
    rcases hc with ⟨h1, v, h2, rfl⟩ | ⟨h1, rfl⟩
    · refine ⟨true, by rw [hcls]; exact PySem.W.exm_ref f2 f3 f4 (ok.fac.sub cx c true h1), fun _ a _ => ?_, (fun z => by cases z)⟩
      refine ⟨fun j hj => ?_, Hf', _, v, st.er.sub, xr, h2, fun Hf2 H2 vv g r => ?_⟩
      · cases hj
        exact set_self (by rw [ks.len]; exact lenN I hi)
      · exact p vv σ' Hf2 H2 (Gr.nil st g) ks r fun a z => by cases z
    · exact ⟨false, by rw [hcls]; exact PySem.W.exm_ref f2 f3 f4 (ok.fac.sub cx c false h1), (fun z => by cases z), fun _ => p σ' cls d Hf' H' st ks xr⟩
theorem s_try_only (ok : Cok T P C L X W) (hs : X.stack = X.env :: X.outer) (hf : X.env.frame = some X.env.locals) (hgl : ∀ x, gl x = true → Gl X x) (hx : x = T.cn c) (hh : T.xh c = true) (hg : Gl X x) (hdb : (x == ("__debug__" : Str)) = false)
    (hb : ∀ (W' : WX) (pn : List (Addr × Obj)) (xe : Value → Shared → Prop), Takes (X.tr pn xe) W' → PassesOwn (model X.prog X.w) X.A X.env xe → PSs (X.tr pn xe) body (TSt T X.K W' mu (execs P C b' mu)))
    (hu : okSu T none gl u ue = true) :
    PS X (.Try body [.ExceptHandler (some (.Name x np)) none [.Return (some ue) rp] pos'] [] [] pos) (TSt T X.K W mu (exec P C (.try_ b' (.ret c u .nil)) mu)) := by
  obtain ⟨f1, f2, f3, f4⟩ := ok.fac.exH c hh
  refine ⟨fun pins s σ H D I q => ?_⟩
  refine (ps_try_only (c := .ref (T.ca c)) (Wout := W) (tb := fun W' => TSt T X.K W' mu (execs P C b' mu)) (ts := fun a cls d => tRet (tSu T P X.K none a cls d u)) hs hf ⟨hg, hdb, .inl (hx ▸ f1)⟩ ok.takes hb
    (fun a oe cls d pn hz hv => pss_one (ps_ret (su_ok ok.fac (fun y hy => by cases hy) hgl hz hv hu)))).run pins s σ H D I ?_
  obtain ⟨ρ, Hf, res, E, h, p⟩ := q
  rw [exec] at h
  cases hx2 : execs P C b' mu ρ with
  | none => rw [hx2] at h; cases h
  | some r =>
  rw [hx2] at h
  refine ⟨ρ, Hf, r, E, hx2, ?_⟩
  cases r with
  | nx ρ1 => cases h; exact p
  | rt v ρ1 => cases h; exact p
  | ex x =>
    have h' : handle P x ρ (.ret c u .nil) = some res := h
    obtain ⟨cx, y, rfl, hc⟩ := handle_ret h'
    intro σ' cls d Hf' H' st ks xr
    have hcls : cls = .ref (T.ca cx) := xr.1
    rcases hc with ⟨h1, v, h2, rfl⟩ | ⟨h1, rfl⟩
    · refine ⟨true, by rw [hcls]; exact PySem.W.exm_ref f2 f3 f4 (ok.fac.sub cx c true h1), fun _ a _ => ?_, (fun z => by cases z)⟩
      exact ⟨fun j hj => (by cases hj), Hf', _, v, st.er.sub, xr, h2, fun Hf2 H2 vv g r => p vv σ' Hf2 H2 (Gr.nil st g) ks r fun a z => by cases z⟩
    · exact ⟨false, by rw [hcls]; exact PySem.W.exm_ref f2 f3 f4 (ok.fac.sub cx c false h1), (fun z => by cases z), fun _ => p σ' cls d Hf' H' st ks xr⟩
end
end
end Ev
/-! Ev 18: that a text is what the evaluator's syntax says: a check, and that it is sound. -/
namespace Ev
open PySem PySem.Spec L2

/-- what is known of the names -/
structure Sc where
  N : List Str
  vis : Str → Bool
  gl : Str → Bool
  loc : Str → Bool
  lcl : Str → Bool
  sc : Scope
structure ScOk (S : Sc) (X : Cx) : Prop where
  N : X.N = S.N
  vis : ∀ x, S.vis x = true → Vis X.env.scope x
  gl : ∀ x, S.gl x = true → Gl X x
  loc : ∀ x, S.loc x = true → Loc X.env.scope x ∧ (X.fn x = true ∨ X.env.scope.names.lookup x = some .local)
  lcl : ∀ x, S.lcl x = true → X.env.scope.names.lookup x = some .local
  sc : X.env.scope = S.sc
def noDbg (x : Str) : Bool := !(x == ("__debug__" : Str)) && !(x == ("__classdict__" : Str))
def okV (S : Sc) (i : Nat) : Expr → Bool
  | .Name x _ => decide (S.N[i]? = some x) && S.vis x && noDbg x
  | _ => false
def okG (S : Sc) (n x : Str) : Bool := x == n && S.gl x && noDbg x
theorem noDbg_ok {x : Str} (h : noDbg x = true) : (x == ("__debug__" : Str)) = false ∧ (x == ("__classdict__" : Str)) = false := by
  unfold noDbg at h
  simp only [Bool.and_eq_true, Bool.not_eq_true'] at h
  exact h
section
variable {S : Sc} {X : Cx} {T : Tx} {P : Prog} {C : Orc} {L : Nat} {W : WX}
theorem okV_pe (so : ScOk S X) {i : Nat} {e : Expr} (h : okV S i e = true) : PE X e (tVar i) ∧ ∃ x p, e = .Name x p ∧ X.N[i]? = some x := by
  cases e with
  | Name x p =>
    have h' : (decide (S.N[i]? = some x) && S.vis x && noDbg x) = true := h
    simp only [Bool.and_eq_true, decide_eq_true_eq] at h'
    obtain ⟨⟨h1, h2⟩, h3⟩ := h'
    rw [← so.N] at h1
    exact ⟨pe_var h1 (so.vis x h2) (noDbg_ok h3).1 (noDbg_ok h3).2, x, p, rfl, h1⟩
  | _ => cases h
theorem okG_ok (so : ScOk S X) {n x : Str} (h : okG S n x = true) : x = n ∧ Gl X x ∧ (x == ("__debug__" : Str)) = false := by
  unfold okG at h
  simp only [Bool.and_eq_true] at h
  exact ⟨eq_of_beq h.1.1, so.gl x h.1.2, (noDbg_ok h.2).1⟩
end

/-! ### operators by form -/
def bOp : Op → Option Operator
  | .add => some .Add | .sub => some .Sub | .mul => some .Mult | .fdiv => some .FloorDiv | .mod => some .Mod | .pow => some .Pow | .shl => some .LShift
  | _ => none
def cOp : Op → Option CmpOp
  | .eq => some .Eq | .ne => some .NotEq | .lt => some .Lt | .le => some .LtE | .gt => some .Gt | .ge => some .GtE | .isin => some .In | .notin => some .NotIn | .is => some .Is | .isnot => some .IsNot
  | _ => none
/-- built-in functions (false), types (true) -/
def fOp : Op → Option (Bool × String)
  | .len => some (false, "len") | .abs => some (false, "abs") | .int => some (true, "int") | .tuple => some (true, "tuple") | .list => some (true, "list")
  | .min => some (false, "min") | .max => some (false, "max") | .sum => some (false, "sum") | .any => some (false, "any") | .all => some (false, "all")
  | .sorted => some (false, "sorted") | .max1 => some (false, "max") | .min1 => some (false, "min")
  | _ => none
def arity : Op → Nat
  | .min => 2 | .max => 2 | _ => 1
/-- a subscript that is no slice -/
def notSlice : Expr → Bool
  | .Slice _ _ _ _ => false
  | _ => true
theorem plainIx {b : Expr} (h : notSlice b = true) : ∀ o i, subscripted b false o i = operate [o, i] (getItem o i) := by
  cases b <;> first | (intro o i; rfl) | cases h
/-- f(xs), f a plain name -/
def callN : Expr → Option (Str × List Expr)
  | .Call (.Name f _) xs [] _ => some (f, xs)
  | _ => none
theorem callN_eq {e : Expr} {r : Str × List Expr} (h : callN e = some r) : ∃ p q, e = .Call (.Name r.1 p) r.2 [] q := by
  unfold callN at h
  split at h
  · cases h; exact ⟨_, _, rfl⟩
  · cases h
def binF (op : Operator) : Expr → Option (Expr × Expr)
  | .BinOp a o b _ => if o = op then some (a, b) else none
  | _ => none
theorem binF_eq {op : Operator} {e : Expr} {r : Expr × Expr} (h : binF op e = some r) : ∃ p, e = .BinOp r.1 op r.2 p := by
  unfold binF at h
  split at h
  · split at h
    · rename_i e1; subst e1; cases h; exact ⟨_, rfl⟩
    · cases h
  · cases h
def cmpF (op : CmpOp) : Expr → Option (Expr × Expr)
  | .Compare a [o] [b] _ => if o = op then some (a, b) else none
  | _ => none
theorem cmpF_eq {op : CmpOp} {e : Expr} {r : Expr × Expr} (h : cmpF op e = some r) : ∃ p, e = .Compare r.1 [op] [r.2] p := by
  unfold cmpF at h
  split at h
  · split at h
    · rename_i e1; subst e1; cases h; exact ⟨_, rfl⟩
    · cases h
  · cases h
def ixF : Expr → Option (Expr × Expr)
  | .Subscript a b _ => some (a, b)
  | _ => none
theorem ixF_eq {e : Expr} {r : Expr × Expr} (h : ixF e = some r) : ∃ p, e = .Subscript r.1 r.2 p := by
  unfold ixF at h
  split at h
  · cases h; exact ⟨_, rfl⟩
  · cases h
def slF : Bool → Bool → Expr → Option (List Expr)
  | true, true, .Subscript a (.Slice (some b) (some c) none _) _ => some [a, b, c]
  | true, false, .Subscript a (.Slice (some b) none none _) _ => some [a, b]
  | false, true, .Subscript a (.Slice none (some b) none _) _ => some [a, b]
  | _, _, _ => none
def tupF : Expr → Option (List Expr)
  | .Tuple es _ _ => some es
  | _ => none
def lstF : Expr → Option (List Expr)
  | .List es _ => some es
  | _ => none
def negF : Expr → Option Expr
  | .UnaryOp .USub a _ => some a
  | _ => none
def attF : Expr → Option (Expr × Str)
  | .Attribute a f _ => some (a, f)
  | _ => none
/-- the operands of an operation, as they are written -/
def form (T : Tx) (S : Sc) : Op → Expr → Option (List Expr)
  | .neg, e => (negF e).map fun a => [a]
  | .idx, e => match ixF e with
    | some (a, b) => if notSlice b then some [a, b] else none
    | none => none
  | .slice lo hi, e => slF lo hi e
  | .tup, e => tupF e
  | .lst, e => lstF e
  | .attr f, e => match attF e with
    | some (a, n) => if n == T.fn f && notSup a then some [a] else none
    | none => none
  | .gcd, e => match callN e with
    | some (f, xs) => if T.gcd && okG S ("gcd" : Str) f && decide (xs.length = 2) then some xs else none
    | none => none
  | .isa ts, e => match call2 e with
    | some (f, a, b) => if f == ("isinstance" : Str) && S.gl f && okCls T S.gl ts b then some [a] else none
    | none => none
  | o, e => match bOp o with
    | some op => (binF op e).map fun r => [r.1, r.2]
    | none => match cOp o with
      | some op => (cmpF op e).bind fun r => if behindInMarks op r.2 then none else some [r.1, r.2]
      | none => match fOp o with
        | some (_, id) => match callN e with
          | some (f, xs) => if okG S (Str.ofString id) f && decide (xs.length = arity o) then some xs else none
          | none => none
        | none => none

section
variable {S : Sc} {X : Cx} {T : Tx} {P : Prog} {C : Orc} {L : Nat} {W : WX}
/-- operands that are right -/
inductive OpS (T : Tx) (P : Prog) (C : Orc) (X : Cx) (W : WX) : Es → List Expr → Prop
  | nil : OpS T P C X W .nil []
  | cons {e' : E} {es' : Es} {e : Expr} {es : List Expr} : PE X e (TO T X.K W (evo P C e')) → notStar e = true → OpS T P C X W es' es → OpS T P C X W (.cons e' es') (e :: es)
theorem OpS.pa : ∀ {es' : Es} {es : List Expr}, OpS T P C X W es' es → PA X es (TL T X.K W (evl P C es')) ∧ es.all notStar = true
  | _, _, .nil => ⟨x_nil, rfl⟩
  | _, _, .cons h n r => ⟨x_cons h r.pa.1 (starE n), by rw [List.all_cons, n, r.pa.2]; rfl⟩
theorem OpS.one {es' : Es} {a : Expr} (h : OpS T P C X W es' [a]) : ∃ a', es' = .cons a' .nil ∧ PE X a (TO T X.K W (evo P C a')) ∧ notStar a = true := by
  cases h with
  | cons h n r => cases r; exact ⟨_, rfl, h, n⟩
theorem OpS.two {es' : Es} {a b : Expr} (h : OpS T P C X W es' [a, b]) : ∃ a' b', es' = .cons a' (.cons b' .nil) ∧ PE X a (TO T X.K W (evo P C a')) ∧ PE X b (TO T X.K W (evo P C b')) ∧ notStar a = true ∧ notStar b = true := by
  cases h with
  | cons h n r =>
    obtain ⟨b', rfl, h2, n2⟩ := r.one
    exact ⟨_, b', rfl, h, h2, n, n2⟩
theorem OpS.three {es' : Es} {a b c : Expr} (h : OpS T P C X W es' [a, b, c]) : ∃ a' b' c', es' = .cons a' (.cons b' (.cons c' .nil)) ∧ PE X a (TO T X.K W (evo P C a')) ∧ PE X b (TO T X.K W (evo P C b')) ∧ PE X c (TO T X.K W (evo P C c')) := by
  cases h with
  | cons h n r =>
    obtain ⟨b', c', rfl, h2, h3, _⟩ := r.two
    exact ⟨_, b', c', rfl, h, h2, h3⟩
theorem bl_boolA {o : Option Bool} {an : EV} (h : boolA o = some (.ok an)) : ∃ k, an = .fr (.bl k) := by
  cases o with
  | none => cases h
  | some b => cases h; exact ⟨b, rfl⟩
theorem bl_cmpD {f : Int → Int → Bool} {d e : D} {an : EV} (h : cmpD f d e = some (.ok an)) : ∃ k, an = .fr (.bl k) := by
  unfold cmpD at h
  split at h
  · cases h; exact ⟨_, rfl⟩
  · cases h
/-- a comparison answers a bool -/
theorem cOp_bl {o : Op} {op : CmpOp} (ho : cOp o = some op) : ∀ C' ds an, opS P C' o ds = some (.ok an) → ∃ k, an = .fr (.bl k) := fun C' ds an h => by
  have hd : ∃ d e, ds = [d, e] := by
    cases ds with
    | nil => cases o <;> cases ho <;> cases h
    | cons d ds => cases ds with
      | nil => cases o <;> cases ho <;> cases h
      | cons e ds => cases ds with
        | nil => exact ⟨d, e, rfl⟩
        | cons _ _ => cases o <;> cases ho <;> cases h
  obtain ⟨d, e, rfl⟩ := hd
  cases o <;> cases ho <;> first | exact bl_boolA h | exact bl_cmpD h
theorem cOp_run (ok : Cok T P C L X W) (mo : MuOk P) {o : Op} {op : CmpOp} (ho : cOp o = some op) : ∀ pins s σ H x y v u Q, Inv X pins σ H s → RelV x v → RelV y u → OpQ T P C X.K W σ o [x, y] H Q → wpAny (model X.prog X.w) X.A (compareOp op v u) (EP X pins σ Q) X.xe s := fun pins s σ H x y v u Q I rx ry q => by
  cases o <;> cases ho
  · exact wp_eq ok mo I rx ry q
  · exact wp_ne ok mo I rx ry q
  · exact wp_cmp (fun _ _ _ => rfl) op_lt I rx ry q
  · exact wp_cmp (fun _ _ _ => rfl) op_le I rx ry q
  · exact wp_cmp (fun _ _ _ => rfl) op_gt I rx ry q
  · exact wp_cmp (fun _ _ _ => rfl) op_ge I rx ry q
  · exact wp_isin ok I rx ry q
  · exact wp_notin ok I rx ry q
  · exact wp_is I rx ry q
  · exact wp_isnot I rx ry q
theorem bOp_run (ok : Cok T P C L X W) (mo : MuOk P) {o : Op} {op : Operator} (ho : bOp o = some op) : ∀ pins s σ H x y v u Q, Inv X pins σ H s → RelV x v → RelV y u → OpQ T P C X.K W σ o [x, y] H Q → wpAny (model X.prog X.w) X.A (binaryOp op v u) (EP X pins σ Q) X.xe s := fun pins s σ H x y v u Q I rx ry q => by
  cases o <;> cases ho
  · exact wp_add ok mo I rx ry q
  · exact wp_sub ok mo I rx ry q
  · exact wp_mul ok mo I rx ry q
  · exact wp_fdiv I rx ry q
  · exact wp_mod I rx ry q
  · exact wp_pow I rx ry q
  · exact wp_shl I rx ry q
/-- a built-in function's value, by its operands -/
theorem fOp_run (ok : Cok T P C L X W) {o : Op} {ty : Bool} {id : String} (ho : fOp o = some (ty, id)) : ∀ pins s σ H vs us Q, vs.length = arity o → Inv X pins σ H s → Vals vs us → OpQ T P C X.K W σ o vs H Q →
    wpAny (model X.prog X.w) X.A (call (if ty then .type id else .builtin id) us) (EP X pins σ Q) X.xe s := fun pins s σ H vs us Q hl I rv q => by
  have one : ∀ {f : Value}, vs.length = 1 → (∀ x v, RelV x v → OpQ T P C X.K W σ o [x] H Q → wpAny (model X.prog X.w) X.A (call f [v]) (EP X pins σ Q) X.xe s) → wpAny (model X.prog X.w) X.A (call f us) (EP X pins σ Q) X.xe s := fun {f} hl h => by
    cases rv with
    | nil => cases hl
    | cons r rr =>
      cases rr with
      | nil => exact h _ _ r q
      | cons _ _ => cases hl
  have two : ∀ {f : Value}, vs.length = 2 → (∀ x v y u, RelV x v → RelV y u → OpQ T P C X.K W σ o [x, y] H Q → wpAny (model X.prog X.w) X.A (call f [v, u]) (EP X pins σ Q) X.xe s) → wpAny (model X.prog X.w) X.A (call f us) (EP X pins σ Q) X.xe s := fun {f} hl h => by
    cases rv with
    | nil => cases hl
    | cons r rr =>
      cases rr with
      | nil => cases hl
      | cons r2 rr =>
        cases rr with
        | nil => exact h _ _ _ _ r r2 q
        | cons _ _ => cases hl
  cases o <;> cases ho
  · exact one hl fun x v rx q => wp_len I rx q
  · exact one hl fun x v rx q => wp_abs I rx q
  · exact one hl fun x v rx q => wp_int I rx q
  · exact one hl fun x v rx q => wp_tuple I rx q
  · exact one hl fun x v rx q => wp_list I rx q
  · exact two hl fun x v y u rx ry q => wp_int2D (fun _ _ _ => rfl) (call_min2 ok.calm) I rx ry q
  · exact two hl fun x v y u rx ry q => wp_int2D (fun _ _ _ => rfl) (call_max2 ok.calm) I rx ry q
  · exact one hl fun x v rx q => wp_sum ok.calm I rx q
  · exact one hl fun x v rx q => wp_any ok.calm I rx q
  · exact one hl fun x v rx q => wp_all ok.calm I rx q
  · exact one hl fun x v rx q => wp_sorted ok I rx q
  · exact one hl fun x v rx q => wp_max1 ok I rx q
  · exact one hl fun x v rx q => wp_min1 ok I rx q

theorem bln (id : String) (h : Str.ofString id ∈ bltN := by decide +kernel) : Str.ofString id ∈ bltN := h
/-- the built-in names -/
theorem fOp_boot {o : Op} {ty : Bool} {id : String} (ho : fOp o = some (ty, id)) : Str.ofString id ∈ bltN ∧ bootBuiltins (Str.ofString id) = some (if ty then .type id else .builtin id) ∧ Str.ofString id ≠ ("__name__" : Str) ∧ (Str.ofString id == ("__debug__" : Str)) = false := by
  cases o <;> cases ho <;> exact ⟨by decide +kernel, by decide +kernel, by decide +kernel, by decide +kernel⟩
theorem fOp_len {o : Op} {r : Bool × String} (ho : fOp o = some r) {C' : Orc} {ds : List D} {an : An} (h : opS P C' o ds = some an) : ds.length = arity o := by
  cases ds with
  | nil => cases o <;> cases ho <;> cases h
  | cons d ds =>
    cases ds with
    | nil => cases o <;> cases ho <;> first | rfl | cases h
    | cons e ds =>
      cases ds with
      | nil => cases o <;> cases ho <;> first | rfl | cases h
      | cons _ _ => cases o <;> cases ho <;> cases h
theorem RBs.length {G : Gm} {Hf H : Hp} : ∀ {vs : List V} {ds : List D}, RBs G Hf H vs ds → vs.length = ds.length
  | _, _, .nil => rfl
  | _, _, .cons _ r => congrArg Nat.succ r.length
theorem x_fun (ok : Cok T P C L X W) {o : Op} {ty : Bool} {id : String} (ho : fOp o = some (ty, id)) {es' : Es} {e : Expr} {es : List Expr} {p pos : Pos} (hg : Gl X (Str.ofString id)) (h : OpS T P C X W es' (e :: es)) :
    PE X (.Call (.Name (Str.ofString id) p) (e :: es) [] pos) (TX T X.K W (ev P C (.op o es'))) := by
  obtain ⟨b1, b2, b3, b4⟩ := fOp_boot ho
  obtain ⟨pa, ns⟩ := h.pa
  have run : ∀ pins s σ H vs us Q, Inv X pins σ H s → Vals vs us → OpQ T P C X.K W σ o vs H Q → wpAny (model X.prog X.w) X.A (call (if ty then .type id else .builtin id) us) (EP X pins σ Q) X.xe s := fun pins s σ H vs us Q I rv q => by
    refine fOp_run ok ho pins s σ H vs us Q ?_ I rv q
    obtain ⟨ρ1, Hf1, ds, C', an, E, r, _, _, h, f⟩ := q
    rw [r.length]
    exact fOp_len ho h
  cases ty with
  | true => exact x_typ hg (ok.fac.blt _ b1) b2 pa ns b3 b4 run
  | false => exact x_blt hg (ok.fac.blt _ b1) b2 pa ns b3 b4 run
theorem x_gcd (ok : Cok T P C L X W) (hgt : T.gcd = true) {es' : Es} {e : Expr} {es : List Expr} {p pos : Pos} (hg : Gl X ("gcd" : Str)) (h : OpS T P C X W es' (e :: es)) :
    PE X (.Call (.Name ("gcd" : Str) p) (e :: es) [] pos) (TX T X.K W (ev P C (.op .gcd es'))) := by
  obtain ⟨pa, ns⟩ := h.pa
  refine x_gfun hg (ok.fac.gcd hgt) pa ns (by decide +kernel) fun pins s σ H vs us Q I rv q => ?_
  obtain ⟨ρ1, Hf1, ds, C', an, E, r, _, _, h, f⟩ := q
  obtain ⟨a, b, rfl⟩ : ∃ a b, ds = [.int a, .int b] := by
    cases ds with
    | nil => cases h
    | cons d ds =>
      cases ds with
      | nil => cases h
      | cons e ds =>
        cases ds with
        | nil => cases d <;> cases e <;> first | exact ⟨_, _, rfl⟩ | cases h
        | cons _ _ => cases h
  cases h
  cases r with
  | cons r1 r2 =>
    cases r2 with
    | cons r2 r3 =>
      cases r3
      refine cr_gcd pins s σ H _ us Q I rv ⟨a, b, by rw [r1.inv_int, r2.inv_int], f.val E (.int _)⟩
/-- the forms that a test reads by their value -/
theorem snd_plain {e : Expr} {r : EnvD → Option (R EV)} (h : PE X e (TX T X.K W r)) (hp : plainE e = true) : Snd T X W e r := by
  refine Snd.plain h (fun whole => ?_) fun op xs p z => by subst z; cases hp
  cases e with
  | UnaryOp op a p => cases op <;> first | rfl | cases hp
  | BoolOp _ _ _ => cases hp
  | Compare _ _ _ _ => cases hp
  | IfExp _ _ _ _ => cases hp
  | _ => rfl
theorem slF_cases {lo hi : Bool} {e : Expr} {xs : List Expr} (h : slF lo hi e = some xs) : (lo = true ∧ hi = true ∧ ∃ a b c p2 p, e = .Subscript a (.Slice (some b) (some c) none p2) p ∧ xs = [a, b, c]) ∨ (lo = true ∧ hi = false ∧ ∃ a b p2 p, e = .Subscript a (.Slice (some b) none none p2) p ∧ xs = [a, b]) ∨
    (lo = false ∧ hi = true ∧ ∃ a b p2 p, e = .Subscript a (.Slice none (some b) none p2) p ∧ xs = [a, b]) := by
  unfold slF at h
  split at h
  · cases h; exact .inl ⟨rfl, rfl, _, _, _, _, _, rfl, rfl⟩
  · cases h; exact .inr (.inl ⟨rfl, rfl, _, _, _, _, rfl, rfl⟩)
  · cases h; exact .inr (.inr ⟨rfl, rfl, _, _, _, _, rfl, rfl⟩)
  · cases h
theorem op_sound (ok : Cok T P C L X W) (mo : MuOk P) (so : ScOk S X) {o : Op} {e : Expr} {xs : List Expr} {es' : Es} (h : form T S o e = some xs) (hx : OpS T P C X W es' xs) : Snd T X W e (ev P C (.op o es')) := by
  have gen : (match bOp o with
    | some op => (binF op e).map fun r => [r.1, r.2]
    | none => match cOp o with
      | some op => (cmpF op e).bind fun r => if behindInMarks op r.2 then none else some [r.1, r.2]
      | none => match fOp o with
        | some (_, id) => match callN e with
          | some (f, xs) => if okG S (Str.ofString id) f && decide (xs.length = arity o) then some xs else none
          | none => none
        | none => none) = some xs → Snd T X W e (ev P C (.op o es')) := fun h => by
    cases hb : bOp o with
    | some op =>
      rw [hb] at h
      dsimp only at h
      cases hf : binF op e with
      | none => rw [hf] at h; cases h
      | some r =>
        rw [hf] at h
        cases h
        obtain ⟨p, rfl⟩ := binF_eq hf
        obtain ⟨a', b', rfl, h1, h2, _⟩ := hx.two
        exact snd_plain (x_bin h1 h2 (bOp_run ok mo hb)) rfl
    | none =>
      rw [hb] at h
      dsimp only at h
      cases hc : cOp o with
      | some op =>
        rw [hc] at h
        dsimp only at h
        cases hf : cmpF op e with
        | none => rw [hf] at h; cases h
        | some r =>
          rw [hf] at h
          have h' : (if behindInMarks op r.2 then none else some [r.1, r.2]) = some xs := h
          cases hm : behindInMarks op r.2 with
          | true => rw [hm] at h'; cases h'
          | false =>
            rw [hm] at h'
            cases h'
            obtain ⟨p, rfl⟩ := cmpF_eq hf
            obtain ⟨a', b', rfl, h1, h2, _⟩ := hx.two
            exact Snd.cmp h1 h2 hm (cOp_bl hc) (cOp_run ok mo hc)
      | none =>
        rw [hc] at h
        dsimp only at h
        cases hf : fOp o with
        | none => rw [hf] at h; cases h
        | some r =>
          obtain ⟨ty, id⟩ := r
          rw [hf] at h
          dsimp only at h
          cases hn : callN e with
          | none => rw [hn] at h; cases h
          | some r2 =>
            obtain ⟨f, ys⟩ := r2
            rw [hn] at h
            have h' : (if okG S (Str.ofString id) f && decide (ys.length = arity o) then some ys else none) = some xs := h
            by_cases hg : (okG S (Str.ofString id) f && decide (ys.length = arity o)) = true
            · rw [if_pos hg] at h'
              cases h'
              rw [Bool.and_eq_true, decide_eq_true_eq] at hg
              obtain ⟨e1, e2, _⟩ := okG_ok so hg.1
              obtain ⟨p, q, rfl⟩ := callN_eq hn
              subst e1
              cases xs with
              | nil => exact absurd hg.2 (by cases o <;> cases hf <;> decide)
              | cons y ys => exact snd_plain (x_fun ok hf e2 hx) rfl
            · rw [if_neg hg] at h'; cases h'
  cases o with
  | neg =>
    have h' : ((negF e).map fun a => [a]) = some xs := h
    cases hf : negF e with
    | none => rw [hf] at h'; cases h'
    | some a =>
      rw [hf] at h'
      cases h'
      obtain ⟨p, rfl⟩ : ∃ p, e = .UnaryOp .USub a p := by
        unfold negF at hf
        split at hf
        · cases hf; exact ⟨_, rfl⟩
        · cases hf
      obtain ⟨a', rfl, h1, _⟩ := hx.one
      exact snd_plain (x_un h1 fun pins s σ H x v Q I rx q => wp_neg ok mo I rx q) rfl
  | idx =>
    have h' : (match ixF e with | some (a, b) => if notSlice b then some [a, b] else none | none => none) = some xs := h
    split at h'
    · rename_i a b hf
      by_cases hs : notSlice b = true
      · rw [if_pos hs] at h'
        cases h'
        obtain ⟨p, rfl⟩ := ixF_eq hf
        obtain ⟨a', b', rfl, h1, h2, _⟩ := hx.two
        exact snd_plain (x_idx h1 h2 (plainIx hs)) rfl
      · rw [if_neg hs] at h'; cases h'
    · cases h'
  | slice lo hi =>
    rcases slF_cases (show slF lo hi e = some xs from h) with ⟨rfl, rfl, a, b, c, p2, p, rfl, rfl⟩ | ⟨rfl, rfl, a, b, p2, p, rfl, rfl⟩ | ⟨rfl, rfl, a, b, p2, p, rfl, rfl⟩
    · obtain ⟨a', b', c', rfl, h1, h2, h3⟩ := hx.three
      exact snd_plain (x_slice2 h1 h2 h3) rfl
    · obtain ⟨a', b', rfl, h1, h2, _⟩ := hx.two
      exact snd_plain (x_slice1 h1 h2) rfl
    · obtain ⟨a', b', rfl, h1, h2, _⟩ := hx.two
      exact snd_plain (x_slice0 h1 h2) rfl
  | tup =>
    have hf : tupF e = some xs := h
    obtain ⟨k, p, rfl⟩ : ∃ k p, e = .Tuple xs k p := by
      unfold tupF at hf
      split at hf
      · cases hf; exact ⟨_, _, rfl⟩
      · cases hf
    exact snd_plain (x_tup hx.pa.1) rfl
  | lst =>
    have hf : lstF e = some xs := h
    obtain ⟨p, rfl⟩ : ∃ p, e = .List xs p := by
      unfold lstF at hf
      split at hf
      · cases hf; exact ⟨_, rfl⟩
      · cases hf
    exact snd_plain (x_lst hx.pa.1) rfl
  | attr f =>
    have h' : (match attF e with | some (a, n) => if n == T.fn f && notSup a then some [a] else none | none => none) = some xs := h
    split at h'
    · rename_i a n hf
      by_cases hs : (n == T.fn f && notSup a) = true
      · rw [if_pos hs] at h'
        cases h'
        rw [Bool.and_eq_true] at hs
        obtain ⟨p, rfl⟩ : ∃ p, e = .Attribute a n p := by
          unfold attF at hf
          split at hf
          · cases hf; exact ⟨_, rfl⟩
          · cases hf
        rw [eq_of_beq hs.1]
        obtain ⟨a', rfl, h1, _⟩ := hx.one
        exact snd_plain (x_attr ok h1 hs.2) rfl
      · rw [if_neg hs] at h'; cases h'
    · cases h'
  | gcd =>
    have h' : (match callN e with | some (f, ys) => if T.gcd && okG S ("gcd" : Str) f && decide (ys.length = 2) then some ys else none | none => none) = some xs := h
    split at h'
    · rename_i f ys hf
      by_cases hs : (T.gcd && okG S ("gcd" : Str) f && decide (ys.length = 2)) = true
      · rw [if_pos hs] at h'
        cases h'
        simp only [Bool.and_eq_true, decide_eq_true_eq] at hs
        obtain ⟨p, q, rfl⟩ := callN_eq hf
        obtain ⟨e1, e2, _⟩ := okG_ok so hs.1.2
        subst e1
        cases xs with
        | nil => cases hs.2
        | cons y ys => exact snd_plain (x_gcd ok hs.1.1 e2 hx) rfl
      · rw [if_neg hs] at h'; cases h'
    · cases h'
  | isa ts =>
    have h' : (match call2 e with | some (f, a, b) => if f == ("isinstance" : Str) && S.gl f && okCls T S.gl ts b then some [a] else none | none => none) = some xs := h
    split at h'
    · rename_i f a b hf
      by_cases hs : (f == ("isinstance" : Str) && S.gl f && okCls T S.gl ts b) = true
      · rw [if_pos hs] at h'
        cases h'
        simp only [Bool.and_eq_true] at hs
        obtain ⟨p, q, rfl⟩ := call2_eq hf
        obtain ⟨a', rfl, h1, n1⟩ := hx.one
        rcases okCls_cases hs.2 with ⟨bs, k, p2, e1, e2, e3, e4⟩ | ⟨t, y, p2, e1, e2, e3⟩
        · subst e1
          exact snd_plain (x_isaT ok so.gl e2 e3 (eq_of_beq hs.1.1) (so.gl f hs.1.2) h1 e4 n1) rfl
        · subst e1
          exact snd_plain (x_isa1 ok so.gl (eq_of_beq hs.1.1) (so.gl f hs.1.2) h1 e3 n1) rfl
      · rw [if_neg hs] at h'; cases h'
    · cases h'
  | _ => exact gen h
end
end Ev
/-! Ev: comprehensions. -/
namespace Ev
open PySem PySem.Spec L2
section
theorem wipeD_len (ρ : EnvD) : ∀ vs : List Nat, (wipeD ρ vs).length = ρ.length
  | [] => rfl
  | v :: vs => by rw [wipeD, List.length_set, wipeD_len ρ vs]
theorem wipeD_in {ρ : EnvD} {i : Nat} {e : EV} : ∀ {vs : List Nat}, (wipeD ρ vs)[i]? = some (some e) → ρ[i]? = some (some e) ∧ i ∉ vs
  | [], h => ⟨h, by simp⟩
  | v :: vs, h => by
    rw [wipeD, List.getElem?_set] at h
    split at h
    · split at h <;> cases h
    · rename_i hne
      obtain ⟨h1, h2⟩ := wipeD_in h
      exact ⟨h1, by simp only [List.mem_cons, not_or]; exact ⟨fun z => hne z.symm, h2⟩⟩
theorem wipeD_of {ρ : EnvD} {i : Nat} {e : EV} : ∀ {vs : List Nat}, ρ[i]? = some (some e) → i ∉ vs → (wipeD ρ vs)[i]? = some (some e)
  | [], h, _ => h
  | v :: vs, h, hn => by
    simp only [List.mem_cons, not_or] at hn
    rw [wipeD, List.getElem?_set, if_neg (fun z => hn.1 z.symm)]
    exact wipeD_of h hn.2
theorem wipe_of {σ : St} {i : Nat} {x : V} : ∀ {vs : List Nat}, σ[i]? = some (some x) → i ∉ vs → (wipe σ vs)[i]? = some (some x)
  | [], h, _ => h
  | v :: vs, h, hn => by
    simp only [List.mem_cons, not_or] at hn
    unfold wipe
    rw [List.getElem?_set, if_neg (fun z => hn.1 z.symm)]
    exact wipe_of h hn.2
theorem backD_in {ρ0 ρ : EnvD} {i : Nat} {e : EV} : ∀ {vs : List Nat}, (backD ρ0 ρ vs)[i]? = some (some e) → (i ∈ vs ∧ ρ0[i]? = some (some e)) ∨ (i ∉ vs ∧ ρ[i]? = some (some e))
  | [], h => .inr ⟨by simp, h⟩
  | v :: vs, h => by
    rw [backD, List.getElem?_set] at h
    split at h
    · rename_i hv
      subst hv
      split at h
      · refine .inl ⟨List.mem_cons_self, ?_⟩
        cases q : ρ0[v]? with
        | none => rw [q] at h; cases h
        | some o => rw [q] at h; exact h
      · cases h
    · rename_i hne
      rcases backD_in h with ⟨h1, h2⟩ | ⟨h1, h2⟩
      · exact .inl ⟨List.mem_cons_of_mem _ h1, h2⟩
      · exact .inr ⟨by simp only [List.mem_cons, not_or]; exact ⟨fun z => hne z.symm, h1⟩, h2⟩
variable {G : Gm} {σ : St} {ρ ρ1 ρ2 : EnvD} {Hf H Hf1 H1 Hf2 H2 : Hp} {vs : List Nat}
theorem Own.unwipe {a : Addr} (h : Own (wipe σ vs) (wipeD ρ vs) H a) : Own σ ρ H a := by
  obtain ⟨i, e, v, h1, h3, h2⟩ := h
  exact ⟨i, e, v, (wipeD_in h1).1, (wipe_some h3).1, h2⟩
/-- the block's names forgotten -/
theorem ER.wipe (E : ER G σ ρ Hf H) : ER G (L2.wipe σ vs) (wipeD ρ vs) Hf H := by
  refine ⟨E.sub, fun i e h => ?_, fun i j e e' v w a h1 h2 h5 h6 h3 h4 => E.apart i j e e' v w a (wipeD_in h1).1 (wipeD_in h2).1 (wipe_some h5).1 (wipe_some h6).1 h3 h4⟩
  obtain ⟨h1, h2⟩ := wipeD_in h
  obtain ⟨v, h3, h4⟩ := E.slot i e h1
  exact ⟨v, wipe_of h3 h2, h4⟩
/-- what stood in the block's names stands again -/
theorem Stp.unwipe2 (E : ER G σ ρ Hf H) (s : Stp G (L2.wipe σ vs) (wipeD ρ vs) Hf H (L2.wipe σ vs) ρ2 Hf2 H2) : Stp G σ ρ Hf H σ (backD ρ ρ2 vs) Hf2 H2 ∧ ∀ a, Own σ (backD ρ ρ2 vs) H2 a → (∃ i e v, i ∈ vs ∧ ρ[i]? = some (some e) ∧ σ[i]? = some (some v) ∧ Has H e v a) ∨ Own (L2.wipe σ vs) ρ2 H2 a := by
  have keep : ∀ {i : Nat} {e : EV} {v : V} {a : Addr}, i ∈ vs → ρ[i]? = some (some e) → σ[i]? = some (some v) → Has H e v a → ¬ Own (L2.wipe σ vs) (wipeD ρ vs) H a := fun {i e v a} hi h1 h3 h2 ⟨j, e', w, k1, k3, k2⟩ => by
    obtain ⟨k4, k5⟩ := wipeD_in k1
    have := E.apart i j e e' v w a h1 k4 h3 (wipe_some k3).1 h2 k2
    subst this
    exact k5 hi
  have slotA : ∀ {i : Nat} {e : EV} {v : V}, i ∈ vs → ρ[i]? = some (some e) → σ[i]? = some (some v) → ∀ b, Has H e v b → Hf2 b = none ∧ H2 b = H b := fun {i e v} hi h1 h3 b hb => by
    have nb := keep hi h1 h3 hb
    obtain ⟨e2, o, e3⟩ := (E.sr h1 h3).has hb
    refine ⟨?_, by rw [e3]; exact s.frame b o e3 nb⟩
    cases q : Hf2 b with
    | none => rfl
    | some u =>
      rcases s.acc b (.inr (by rw [q]; simp)) with z | z | z
      · exact absurd z nb
      · exact absurd e2 z
      · rw [e3] at z; cases z
  have iff : ∀ {i : Nat} {e : EV} {v : V} {a : Addr}, i ∈ vs → ρ[i]? = some (some e) → σ[i]? = some (some v) → (Has H2 e v a ↔ Has H e v a) := fun {i e v a} hi h1 h3 => (E.sr h1 h3).hasIff fun b hb => (slotA hi h1 h3 b hb).2
  have cross : ∀ {i j : Nat} {e e' : EV} {v w : V} {a : Addr}, i ∈ vs → ρ[i]? = some (some e) → σ[i]? = some (some v) → Has H2 e v a → ρ2[j]? = some (some e') → (L2.wipe σ vs)[j]? = some (some w) → Has H2 e' w a → False := fun {i j e e' v w a} hi h1 h3 h2 k1 k3 k2 => by
    have h2' := (iff hi h1 h3).mp h2
    obtain ⟨q1, o, q2⟩ := (E.sr h1 h3).has h2'
    rcases s.acc a (.inl ⟨j, e', w, k1, k3, k2⟩) with z | z | z
    · exact keep hi h1 h3 h2' z
    · exact z q1
    · rw [q2] at z; cases z
  have wslot : ∀ {i : Nat} {e : EV} {v : V}, ρ2[i]? = some (some e) → σ[i]? = some (some v) → (L2.wipe σ vs)[i]? = some (some v) := fun {i e v} h1 h3 => by
    obtain ⟨w, g1, _⟩ := s.er.slot i e h1
    have := (wipe_some g1).1
    rw [h3] at this
    cases this
    exact g1
  refine ⟨⟨⟨s.er.sub, fun i e h => ?_, fun i j e e' v w a h1 h2 h5 h6 h3 h4 => ?_⟩, s.ext, fun a o h1 h2 => s.frame a o h1 fun z => h2 z.unwipe, fun a h => ?_⟩, fun a ⟨i, e, v, k1, k3, k2⟩ => by
    rcases backD_in k1 with ⟨l1, l2⟩ | ⟨l1, l2⟩
    · exact .inl ⟨i, e, v, l1, l2, k3, (iff l1 l2 k3).mp k2⟩
    · exact .inr ⟨i, e, v, l2, wslot l2 k3, k2⟩⟩
  · rcases backD_in h with ⟨k1, k2⟩ | ⟨k1, k2⟩
    · obtain ⟨v, g1, g2⟩ := E.slot i e k2
      exact ⟨v, g1, g2.move (fun b hb => (slotA k1 k2 g1 b hb).2) (fun b hb => (slotA k1 k2 g1 b hb).1) s.ext⟩
    · obtain ⟨v, g1, g2⟩ := s.er.slot i e k2
      exact ⟨v, (wipe_some g1).1, g2⟩
  · rcases backD_in h1 with ⟨k1, k2⟩ | ⟨k1, k2⟩
    · rcases backD_in h2 with ⟨l1, l2⟩ | ⟨l1, l2⟩
      · exact E.apart i j e e' v w a k2 l2 h5 h6 ((iff k1 k2 h5).mp h3) ((iff l1 l2 h6).mp h4)
      · exact (cross k1 k2 h5 h3 l2 (wslot l2 h6) h4).elim
    · rcases backD_in h2 with ⟨l1, l2⟩ | ⟨l1, l2⟩
      · exact (cross l1 l2 h6 h4 k2 (wslot k2 h5) h3).elim
      · exact s.er.apart i j e e' v w a k2 l2 (wslot k2 h5) (wslot l2 h6) h3 h4
  · rcases h with ⟨i, e, v, k1, k3, k2⟩ | h
    · rcases backD_in k1 with ⟨l1, l2⟩ | ⟨l1, l2⟩
      · exact .inl ⟨i, e, v, l2, k3, (iff l1 l2 k3).mp k2⟩
      · rcases s.acc a (.inl ⟨i, e, v, l2, wslot l2 k3, k2⟩) with z | z
        · exact .inl z.unwipe
        · exact .inr z
    · rcases s.acc a (.inr h) with z | z
      · exact .inl z.unwipe
      · exact .inr z
theorem Stp.unwipe (E : ER G σ ρ Hf H) (s : Stp G (L2.wipe σ vs) (wipeD ρ vs) Hf H (L2.wipe σ vs) ρ2 Hf2 H2) : Stp G σ ρ Hf H σ (backD ρ ρ2 vs) Hf2 H2 := (s.unwipe2 E).1
theorem lcwipe_eq {σ σ2 : St} (hl : σ2.length = σ.length) (h : ∀ i, i ∉ vs → σ2[i]? = (L2.wipe σ vs)[i]?) : L2.wipe σ2 vs = L2.wipe σ vs := by
  apply List.ext_getElem?
  intro i
  by_cases hi : i ∈ vs
  · have gone : ∀ {σ : St} {vs : List Nat}, i ∈ vs → (L2.wipe σ vs)[i]? = if i < σ.length then some none else none := fun {σ vs} => by
      induction vs with
      | nil => intro h; cases h
      | cons v vs ih =>
        intro h
        unfold L2.wipe
        rw [List.getElem?_set, L2.wipe_length]
        by_cases e : v = i
        · rw [if_pos e, e]
        · rw [if_neg e]
          rcases List.mem_cons.mp h with z | z
          · exact absurd z.symm e
          · exact ih z
    rw [gone hi, gone hi, hl]
  · have stay : ∀ {σ : St} {vs : List Nat}, i ∉ vs → (L2.wipe σ vs)[i]? = σ[i]? := fun {σ vs} => by
      induction vs with
      | nil => intro _; rfl
      | cons v vs ih =>
        intro h
        simp only [List.mem_cons, not_or] at h
        unfold L2.wipe
        rw [List.getElem?_set, if_neg (fun z => h.1 z.symm)]
        exact ih h.2
    rw [stay hi, h i hi]
/-- behind a turn the block's names are forgotten -/
theorem Stp.wipe {σ0 : St} {ρ0 : EnvD} (s : Stp G σ0 ρ0 Hf H σ ρ Hf1 H1) : Stp G σ0 ρ0 Hf H (L2.wipe σ vs) (wipeD ρ vs) Hf1 H1 :=
  ⟨s.er.wipe, s.ext, s.frame, fun a h => s.acc a (h.elim (fun z => .inl z.unwipe) .inr)⟩
/-- an object that nothing knows is put otherwise -/
theorem Stp.other {σ0 : St} {ρ0 : EnvD} {D : Addr} {o : HO} (s : Stp G σ0 ρ0 Hf H σ ρ Hf1 H1) (h0 : H D = none) (h1 : Hf1 D = none) (h2 : ¬ Own σ ρ H1 D) : Stp G σ0 ρ0 Hf H σ ρ Hf1 (upd H1 D o) := by
  have ne : ∀ {a : Addr} {u : HO}, Hf1 a = some u → a ≠ D := fun {a u} e z => by subst z; rw [h1] at e; cases e
  have st : ∀ {i : Nat} {e : EV} {v : V}, ρ[i]? = some (some e) → σ[i]? = some (some v) → ∀ b, Has H1 e v b → upd H1 D o b = H1 b := fun {i e v} g1 g2 b hb => upd_ne fun z => h2 ⟨i, e, v, g1, g2, z ▸ hb⟩
  have iff : ∀ {i : Nat} {e : EV} {v : V} {a : Addr}, ρ[i]? = some (some e) → σ[i]? = some (some v) → (Has (upd H1 D o) e v a ↔ Has H1 e v a) := fun {i e v a} g1 g2 => (s.er.sr g1 g2).hasIff (st g1 g2)
  refine ⟨⟨fun a u e => by rw [upd_ne (ne e)]; exact s.er.sub a u e, fun i e h => ?_, fun i j e e' v w a g1 g2 g3 g4 g5 g6 => s.er.apart i j e e' v w a g1 g2 g3 g4 ((iff g1 g3).mp g5) ((iff g2 g4).mp g6)⟩, s.ext, fun a u e n => ?_, fun a h => s.acc a (h.elim (fun ⟨i, e, v, g1, g2, g3⟩ => .inl ⟨i, e, v, g1, g2, (iff g1 g2).mp g3⟩) .inr)⟩
  · obtain ⟨v, g1, g2⟩ := s.er.slot i e h
    exact ⟨v, g1, g2.move (st h g1) (fun b hb => (g2.has hb).1) (Same.refl _)⟩
  · have : a ≠ D := fun z => by subst z; rw [h0] at e; cases e
    rw [upd_ne this]
    exact s.frame a u e n
theorem Own.other {D : Addr} {o : HO} {a : Addr} (E : ER G σ ρ Hf1 H1) (h2 : ¬ Own σ ρ H1 D) : Own σ ρ (upd H1 D o) a ↔ Own σ ρ H1 a := by
  have st : ∀ {i : Nat} {e : EV} {v : V}, ρ[i]? = some (some e) → σ[i]? = some (some v) → ∀ b, Has H1 e v b → upd H1 D o b = H1 b := fun {i e v} g1 g2 b hb => upd_ne fun z => h2 ⟨i, e, v, g1, g2, z ▸ hb⟩
  have iff : ∀ {i : Nat} {e : EV} {v : V} {a : Addr}, ρ[i]? = some (some e) → σ[i]? = some (some v) → (Has (upd H1 D o) e v a ↔ Has H1 e v a) := fun {i e v a} g1 g2 => (E.sr g1 g2).hasIff (st g1 g2)
  exact ⟨fun ⟨i, e, v, g1, g2, g3⟩ => ⟨i, e, v, g1, g2, (iff g1 g2).mp g3⟩, fun ⟨i, e, v, g1, g2, g3⟩ => ⟨i, e, v, g1, g2, (iff g1 g2).mpr g3⟩⟩
end
/-- the slots of a target -/
def Tg.ixs : Tg → List Nat
  | .nm i => [i]
  | .tp is => is
theorem asgT_mu {mu : List Nat} {t : Tg} {e : EV} {ρ ρ' : EnvD} (h : asgT [] t e ρ = some ρ') (hm : ∀ i ∈ t.ixs, i ∉ mu) : asgT mu t e ρ = some ρ' := by
  cases t with
  | nm i =>
    have h' : (if ([] : List Nat).contains i then none else some (ρ.set i (some e))) = some ρ' := h
    show (if mu.contains i then none else some (ρ.set i (some e))) = some ρ'
    have : mu.contains i = false := by
      cases q : mu.contains i with
      | false => rfl
      | true => exact absurd (by simpa using q) (hm i (by simp [Tg.ixs]))
    rw [this]
    exact h'
  | tp is =>
    cases e with
    | fr d =>
      cases d with
      | tup ds =>
        have h' : (if is.any ([] : List Nat).contains then none else if is.length = ds.length then some (setAll is ds ρ) else none) = some ρ' := h
        show (if is.any mu.contains then none else if is.length = ds.length then some (setAll is ds ρ) else none) = some ρ'
        have e1 : is.any ([] : List Nat).contains = false := by rw [List.any_eq_false]; intro x hx; simp
        have e2 : is.any mu.contains = false := by
          rw [List.any_eq_false]
          intro x hx
          have := hm x hx
          simpa using this
        rw [e1] at h'
        rw [e2]
        exact h'
      | _ => cases h
    | _ => cases h
end Ev
/-! Ev: a comprehension does what the evaluator says. -/
namespace Ev
open PySem PySem.Spec L2
abbrev W0 : WX := fun _ _ _ _ => False
noncomputable def lcS (P : Prog) (C : Orc) (t : Tg) (cs : Es) (e : E) (vs : List Nat) (x : D) (ρ : EnvD) : Option (R (Option D)) := match asgT [] t (.fr x) ρ with
        | none => none
        | some ρ' => bindR (evC P C cs ρ') fun b ρ'' => match b with
          | false => some (.ok none (wipeD ρ'' vs))
          | true => bindR (ev P C e ρ'') fun v ρ3 => some (.ok (some v.fz) (wipeD ρ3 vs))
section
variable {T : Tx} {P : Prog} {C : Orc} {L : Nat} {X : Cx} {W : WX} {K : PySem.W.Frag}
variable {G : Gm} {σ : St} {ρ ρ1 ρ2 : EnvD} {Hf H Hf1 H1 Hf2 H2 : Hp} {vs : List Nat}
/-- what nothing knows stays unknown -/
theorem Stp.unk {σ2 : St} {D : Addr} {o : HO} (s : Stp G σ ρ Hf H σ2 ρ2 Hf2 H2) (h0 : H D = some o) (h1 : Hf D = none) (h2 : ¬ Own σ ρ H D) : H2 D = some o ∧ Hf2 D = none ∧ ¬ Own σ2 ρ2 H2 D := by
  refine ⟨s.frame D o h0 h2, ?_, fun z => ?_⟩
  · cases q : Hf2 D with
    | none => rfl
    | some u =>
      rcases s.acc D (.inr (by rw [q]; simp)) with z | z | z
      · exact absurd z h2
      · exact absurd h1 z
      · rw [h0] at z; cases z
  · rcases s.acc D (.inl z) with z | z | z
    · exact absurd z h2
    · exact absurd h1 z
    · rw [h0] at z; cases z
theorem evI_src {it : Ev.It} {xs : List D} {j : Nat} (h : evI P C it ρ = some (.ok (xs, some j) ρ1)) : it = .seq (.bor j) := by
  have gen : ∀ {e : E}, (bindR (ev P C e ρ) fun v ρ1 => match itemsOf v.fz with
    | some xs => some (R.ok ((xs, none) : Src) ρ1)
    | none => none) = some (.ok (xs, some j) ρ1) → False := fun {e} h => by
    cases q : ev P C e ρ with
    | none => rw [q] at h; cases h
    | some r =>
      rw [q] at h
      cases r with
      | ex x => cases h
      | ok v ρ2 =>
        have h2 : (match itemsOf v.fz with
          | some xs => some (R.ok ((xs, none) : Src) ρ2)
          | none => none) = some (.ok (xs, some j) ρ1) := h
        split at h2 <;> cases h2
  cases it with
  | seq e =>
    cases e with
    | bor i =>
      rw [evI] at h
      split at h
      · split at h
        · cases h; rfl
        · cases h
      · cases h
    | _ => exact (gen (by rw [evI] at h <;> first | exact h | (intro _ z; cases z))).elim
  | rng es =>
    rw [evI] at h
    exfalso
    cases q : evl P C es ρ with
    | none => rw [q] at h; cases h
    | some r =>
      rw [q] at h
      cases r with
      | ex x => cases h
      | ok ods ρ2 =>
        simp only [bindR] at h
        split at h <;> (try split at h) <;> cases h
  | zip es =>
    rw [evI] at h
    exfalso
    cases q : evl P C es ρ with
    | none => rw [q] at h; cases h
    | some r =>
      rw [q] at h
      cases r with
      | ex x => cases h
      | ok ods ρ2 =>
        simp only [bindR] at h
        split at h
        · split at h <;> cases h
        · cases h
  | enum e => rw [evI] at h; cases h
open Classical in
/-- the reading of a comprehension -/
theorem lc_conv {own : List (Str × Nat)} {it : Ev.It} {t : Tg} {g : TG} {cs : Es} {e' : E} {n : Nat} {σ : St} {H : Hp} {Q : VK} (htg : TgOk T K n t g) (hix : ∀ i ∈ t.ixs, i ∈ own.map (·.2)) (hb : ∀ j, it = .seq (.bor j) → j ∉ own.map (·.2)) (hlen : σ.length = n)
    (q : TX T K W (ev P C (.lc (own.map (·.2)) t it cs e')) σ H Q) : tLc (TIt T K W (evI P C it)) g (TT' T K W0 (evC P C cs)) (TX T K W0 (ev P C e')) (own.map (·.2)) σ H Q := by
  obtain ⟨ρ, Hf, res, E, h, p⟩ := q
  rw [ev] at h
  cases hx : evI P C it ρ with
  | none => rw [hx] at h; cases h
  | some y =>
  rw [hx] at h
  cases y with
  | ex x => cases h; exact ⟨ρ, Hf, _, E, hx, p⟩
  | ok src ρ1 =>
  obtain ⟨xs, b0⟩ := src
  generalize hvs : own.map (·.2) = vs at *
  have h' : (match lcL b0 (lcS P C t cs e' vs) xs [] (wipeD ρ1 vs) with
      | some (.ok ys ρ2) => some (R.ok (EV.ow ys) (backD ρ1 ρ2 vs))
      | _ => none) = some res := h
  cases hl : lcL b0 (lcS P C t cs e' vs) xs [] (wipeD ρ1 vs) with
  | none => rw [hl] at h'; cases h'
  | some z =>
  rw [hl] at h'
  cases z with
  | ex x => cases h'
  | ok ys ρ2 =>
  cases h'
  refine ⟨ρ, Hf, _, E, hx, fun J Hf1 H1 Pp st wk so => ?_⟩
  intro D hD
  have hfD : Hf1 D = none := by
    cases q : Hf1 D with
    | none => rfl
    | some u => rw [st.er.sub D u q] at hD; cases hD
  have noO : ¬ Own σ ρ1 H1 D := fun z => by
    obtain ⟨_, ob, q⟩ := st.er.own z
    rw [hD] at q; cases q
  let mu := (List.range n).filter fun i => !vs.contains i
  have hmu : ∀ i, i ∈ mu ↔ i < n ∧ i ∉ vs := fun i => by simp [mu]
  refine ⟨fun k m H' => m = xs.length - k ∧ k ≤ xs.length ∧ ∃ ρ' Hf' acc us, Stp (T.gm K) (L2.wipe σ vs) (wipeD ρ1 vs) Hf1 H1 (L2.wipe σ vs) ρ' Hf' H' ∧ Same Hf1 Hf' ∧ Ev.same b0 (wipeD ρ1 vs) ρ' ∧ H' D = some (.lst us) ∧ Hf' D = none ∧ ¬ Own (L2.wipe σ vs) ρ' H' D ∧ Reps (T.gm K) Hf' us acc ∧
      lcL b0 (lcS P C t cs e' vs) (xs.drop k) acc ρ' = some (.ok ys ρ2), ?_, ?_⟩
  · refine ⟨xs.length, by simp, Nat.zero_le _, wipeD ρ1 vs, Hf1, [], [], (Stp.refl st.er.wipe).other hD hfD fun z => noO z.unwipe, Same.refl _, by cases b0 <;> simp [Ev.same], upd_same, hfD, fun z => noO ((Own.other st.er.wipe fun z => noO z.unwipe).mp z).unwipe, .nil, hl⟩
  rintro k m H' ⟨rfl, hk, ρ', Hf', acc, us, st', ext, sm, hD', hfD', noO', ra, hf⟩
  have hnl : ∀ j, b0 = some j → j ∉ vs := fun j e => by subst e; exact hb j (evI_src hx)
  have pp : Pp Hf' H' := by
    cases hb0 : b0 with
    | none => subst hb0; exact so Hf' H' ext
    | some j =>
      have hj := hnl j hb0
      subst hb0
      obtain ⟨e0, v, g1, g2, g3⟩ := so
      have g4 : get ρ' j = get (wipeD ρ1 vs) j := sm
      have g5 : (wipeD ρ1 vs)[j]? = some (some e0) := wipeD_of (get_some g1) hj
      have g6 : get (wipeD ρ1 vs) j = some e0 := by unfold Ev.get; rw [g5]
      obtain ⟨w, k1, k2⟩ := st'.er.slot j _ (get_some (g4.trans g6))
      have := (wipe_some k1).1
      rw [g2] at this
      cases this
      exact g3 _ _ k2
  obtain ⟨stop, go⟩ := wk Hf' H' st'.er.sub pp
  by_cases hlt : k < xs.length
  · rw [List.drop_eq_getElem_cons hlt, lcL] at hf
    obtain ⟨g1, g2⟩ := go k xs[k] (List.getElem?_eq_getElem hlt)
    refine .inr ⟨g1, fun H3 => ∃ ρ3 Hf3 acc3 us3, Stp (T.gm K) (L2.wipe σ vs) (wipeD ρ1 vs) Hf1 H1 (L2.wipe σ vs) ρ3 Hf3 H3 ∧ Same Hf1 Hf3 ∧ Ev.same b0 (wipeD ρ1 vs) ρ3 ∧ H3 D = some (.lst us3) ∧ Hf3 D = none ∧ ¬ Own (L2.wipe σ vs) ρ3 H3 D ∧ Reps (T.gm K) Hf3 us3 acc3 ∧
      lcL b0 (lcS P C t cs e' vs) (xs.drop (k + 1)) acc3 ρ3 = some (.ok ys ρ2), fun H3 z => ⟨xs.length - (k + 1), by omega, rfl, hlt, z⟩, fun x H2 y => ?_⟩
    obtain ⟨Hf2, gr, rx⟩ := g2 x H2 y
    have s2 : Stp (T.gm K) (L2.wipe σ vs) ρ' Hf' H' (L2.wipe σ vs) ρ' Hf2 H2 := gr.stp st'.er
    -- the turn
    cases hS : lcS P C t cs e' vs xs[k] ρ' with
    | none => rw [hS] at hf; cases hf
    | some w =>
    rw [hS] at hf
    cases w with
    | ex x => cases hf
    | ok r ρn =>
    have hf2 : (if Ev.same b0 ρ' ρn then match r with
      | none => lcL b0 (lcS P C t cs e' vs) (xs.drop (k + 1)) acc ρn
      | some y => if acc.length < most then lcL b0 (lcS P C t cs e' vs) (xs.drop (k + 1)) (acc ++ [y]) ρn else none
    else none) = some (.ok ys ρ2) := hf
    have hsn : Ev.same b0 ρ' ρn := by
      by_cases z : Ev.same b0 ρ' ρn
      · exact z
      · rw [if_neg z] at hf2; cases hf2
    rw [if_pos hsn] at hf2
    have smn : Ev.same b0 (wipeD ρ1 vs) ρn := by
      cases b0 with
      | none => trivial
      | some j => exact (show get ρn j = get ρ' j from hsn).trans sm
    unfold lcS at hS
    cases ha : asgT [] t (.fr xs[k]) ρ' with
    | none => rw [ha] at hS; cases hS
    | some ρa =>
    rw [ha] at hS
    dsimp only at hS
    have ha2 : asgT mu t (.fr xs[k]) ρ' = some ρa := asgT_mu ha fun i hi z => ((hmu i).mp z).2 (hix i hi)
    have hwl : (L2.wipe σ vs).length = n := by rw [L2.wipe_length]; exact hlen
    refine htg mu (L2.wipe σ vs) ρ' Hf' H' (L2.wipe σ vs) ρ' Hf2 H2 xs[k] x ρa _ hwl s2 .refl ha2 rx fun σ2 s3 k3 => ?_
    have hw2 : L2.wipe σ2 vs = L2.wipe σ vs := by
      have h1 : σ2.length = σ.length := by rw [k3.len, L2.wipe_length]
      refine lcwipe_eq h1 fun i hi => ?_
      by_cases hi2 : i < n
      · exact k3.at_ i ((hmu i).mpr ⟨hi2, hi⟩)
      · rw [List.getElem?_eq_none (by rw [h1, hlen]; omega), List.getElem?_eq_none (by rw [hwl]; omega)]
    refine ⟨hw2, ?_⟩
    cases hC : evC P C cs ρa with
    | none => rw [hC] at hS; cases hS
    | some w =>
    rw [hC] at hS
    cases w with
    | ex x => cases hS
    | ok b ρb =>
    refine ⟨ρa, Hf2, _, s3.er, hC, fun Hf3 H3 s4 => ?_⟩
    have s5 := s3.trans s4
    have nxt : ∀ {ρ4 : EnvD} {Hf4 H4 : Hp}, Stp (T.gm K) (L2.wipe σ vs) ρ' Hf' H' σ2 ρ4 Hf4 H4 → Stp (T.gm K) (L2.wipe σ vs) (wipeD ρ1 vs) Hf1 H1 (L2.wipe σ vs) (wipeD ρ4 vs) Hf4 H4 := fun {ρ4 Hf4 H4} s => by
      have := (st'.trans s).wipe (vs := vs)
      rw [hw2] at this
      exact this
    have unw : ∀ {ρ4 : EnvD} {H4 : Hp}, ¬ Own σ2 ρ4 H4 D → ¬ Own (L2.wipe σ vs) (wipeD ρ4 vs) H4 D := fun {ρ4 H4} h z => by
      rw [← hw2] at z
      exact h z.unwipe
    cases b with
    | false =>
      dsimp only
      rw [if_neg (by simp)]
      have hS' : some (R.ok none (wipeD ρb vs)) = some (R.ok r ρn) := hS
      cases hS'
      obtain ⟨u1, u2, u3⟩ := s5.unk hD' hfD' noO'
      exact ⟨_, Hf3, acc, us, nxt s5, ext.trans s5.ext, smn, u1, u2, unw u3, ra.mono s5.ext, hf2⟩
    | true =>
      dsimp only
      rw [if_pos rfl]
      cases hE : ev P C e' ρb with
      | none => simp only [bindR, hE] at hS; cases hS
      | some w =>
      simp only [bindR, hE] at hS
      cases w with
      | ex x => cases hS
      | ok v ρ4 =>
      cases hS
      refine ⟨ρb, Hf3, _, s4.er, hE, fun y Hf4 H4 s6 sr mi => ?_⟩
      obtain ⟨Hf5, s7, ry⟩ := s6.fz sr mi
      have s8 := s5.trans s7
      obtain ⟨u1, u2, u3⟩ := s8.unk hD' hfD' noO'
      have hf3 : (if acc.length < most then lcL b0 (lcS P C t cs e' vs) (xs.drop (k + 1)) (acc ++ [v.fz]) (wipeD ρ4 vs) else none) = some (.ok ys ρ2) := hf2
      have hm : acc.length < most := by
        by_cases z : acc.length < most
        · exact z
        · rw [if_neg z] at hf3; cases hf3
      rw [if_pos hm] at hf3
      have ra5 := ra.mono s8.ext
      refine ⟨us, u1, ?_, _, Hf5, acc ++ [v.fz], us ++ [y], (nxt s8).other hD u2 (unw u3), ext.trans s8.ext, smn, upd_same, u2, fun z => unw u3 ((Own.other (nxt s8).er (unw u3)).mp z), ra5.append (.cons ry .nil), hf3⟩
      rw [ra.length]
      exact Nat.lt_trans hm (by decide)
  · have e : k = xs.length := by omega
    subst e
    rw [List.drop_length, lcL] at hf
    cases hf
    have fin := st.trans (st'.unwipe st.er)
    refine .inl ⟨stop, p (.ref D) Hf' H' fin ⟨D, us, rfl, hfD', hD', ra⟩ fun a z => ?_⟩
    cases (show V.ref D = .ref a from z)
    refine ⟨?_, fun z => ?_⟩
    · cases q : H D with
      | none => exact .inr rfl
      | some o =>
        by_cases w : Own σ ρ H D
        · exact .inl w
        · rw [st.frame D o q w] at hD; cases hD
    · exact ((st'.unwipe2 st.er).2 D z).elim (fun ⟨i, e, v, _, h1, h2, h3⟩ => noO ⟨i, e, v, h1, h2, h3⟩) noO'
theorem x_lc {elt tg iter : Expr} {ifs : List Expr} {scope : Scope} {own : List (Str × Nat)} {pos : Pos} {it : Ev.It} {t : Tg} {g : TG} {cs : Es} {e' : E} (hc : X.calm = true) (hN : X.N.Nodup) (hi : PI X tg iter (TIt T X.K W (evI P C it))) (bk : BlkOk X.N X.env.scope scope own)
    (hg : ∀ (s : Shared) (H : Hp) (C : Addr) (cl : List (Str × Addr)) (fp : List Addr), PG (X.blk s H scope (compEnvC scope cl C X.env) fp) tg g) (htg : TgOk T X.K X.N.length t g) (hix : ∀ i ∈ t.ixs, i ∈ own.map (·.2)) (hb : ∀ j, it = .seq (.bor j) → j ∉ own.map (·.2))
    (ht : ∀ (s : Shared) (H : Hp) (C' : Addr) (cl : List (Str × Addr)) (fp : List Addr), PTs (X.blk s H scope (compEnvC scope cl C' X.env) fp) ifs (TT' T X.K W0 (evC P C cs)))
    (he : ∀ (s : Shared) (H : Hp) (C' : Addr) (cl : List (Str × Addr)) (fp : List Addr), PE (X.blk s H scope (compEnvC scope cl C' X.env) fp) elt (TX T X.K W0 (ev P C e'))) (hs : ∀ x, foldedSetIterable iter X.env x = pure x) :
    PE X (.ListComp elt [⟨tg, iter, ifs, 0⟩] scope pos) (TX T X.K W (ev P C (.lc (own.map (·.2)) t it cs e'))) := ⟨fun pins s σ H Q I q =>
  (pe_lc (own := own) hc hN hi bk hg ht he hs).run pins s σ H Q I (lc_conv htg hix hb I.len q)⟩
end
end Ev
/-! Ev: tables whose rows are their own: read, stored to, made. -/
namespace Ev
open PySem PySem.Spec L2
section
variable {T : Tx} {P : Prog} {C : Orc} {L : Nat} {X : Cx} {W : WX} {K : PySem.W.Frag} {S : Sc}
variable {G : Gm} {σ σ1 : St} {ρ ρ1 ρ2 : EnvD} {Hf H Hf1 H1 Hf2 H2 : Hp} {vs : List Nat}
/-- a number that is read off -/
def tCalm (T : Tx) (K : PySem.W.Frag) (x : E) : TE := fun σ H Q => ∃ ρ Hf k, ER (T.gm K) σ ρ Hf H ∧ calmE ρ x = some k ∧ Q (.int k) H
def okCalm (S : Sc) : E → Expr → Bool
  | .cst (.int i), e => okCon (.int i) e
  | .var i, e => okV S i e
  | .op .add (.cons a (.cons b .nil)), e => match binF .Add e with
    | some (x, y) => okCalm S a x && okCalm S b y
    | none => false
  | .op .sub (.cons a (.cons b .nil)), e => match binF .Sub e with
    | some (x, y) => okCalm S a x && okCalm S b y
    | none => false
  | _, _ => false
theorem calm2 {f : Int → Int → Int} {a b : E} {k : Int} (h : (match calmE ρ a, calmE ρ b with | some i, some j => some (f i j) | _, _ => none) = some k) : ∃ i j, calmE ρ a = some i ∧ calmE ρ b = some j ∧ k = f i j := by
  split at h
  · rename_i i j h1 h2; cases h; exact ⟨i, j, h1, h2, rfl⟩
  · cases h
theorem okCalm_pe (so : ScOk S X) : ∀ {x : E} {e : Expr}, okCalm S x e = true → PE X e (tCalm T X.K x)
  | .cst (.int i), e, h => (okCon_pe (X := X) (show okCon (.int i) e = true from by unfold okCalm at h; exact h)).2.weak fun σ H Q q => by
    obtain ⟨ρ, Hf, k, E, h1, h2⟩ := q
    rw [calmE] at h1
    cases h1
    exact h2
  | .var i, e, h => by
    unfold okCalm at h
    obtain ⟨h1, x, p, rfl, _⟩ := okV_pe so h
    refine h1.weak fun σ H Q q => ?_
    obtain ⟨ρ, Hf, k, E, h1, h2⟩ := q
    rw [calmE] at h1
    split at h1
    · rename_i k' g
      cases h1
      obtain ⟨v, e1, e2⟩ := E.slot i _ (get_some g)
      cases (show Rep (T.gm X.K) Hf v (.int k) from e2)
      exact ⟨_, e1, h2⟩
    · cases h1
  | .op .add (.cons a (.cons b .nil)), e, h => by
    unfold okCalm at h
    split at h
    · rename_i x y hf
      obtain ⟨p, rfl⟩ := binF_eq hf
      rw [Bool.and_eq_true] at h
      refine (pe_op op_add (okCalm_pe so h.1) (okCalm_pe so h.2)).weak fun σ H Q q => ?_
      obtain ⟨ρ, Hf, k, E, h1, h2⟩ := q
      rw [calmE] at h1
      obtain ⟨i, j, g1, g2, rfl⟩ := calm2 h1
      exact ⟨ρ, Hf, i, E, g1, ρ, Hf, j, E, g2, i, j, rfl, rfl, h2⟩
    · cases h
  | .op .sub (.cons a (.cons b .nil)), e, h => by
    unfold okCalm at h
    split at h
    · rename_i x y hf
      obtain ⟨p, rfl⟩ := binF_eq hf
      rw [Bool.and_eq_true] at h
      refine (pe_op op_sub (okCalm_pe so h.1) (okCalm_pe so h.2)).weak fun σ H Q q => ?_
      obtain ⟨ρ, Hf, k, E, h1, h2⟩ := q
      rw [calmE] at h1
      obtain ⟨i, j, g1, g2, rfl⟩ := calm2 h1
      exact ⟨ρ, Hf, i, E, g1, ρ, Hf, j, E, g2, i, j, rfl, rfl, h2⟩
    · cases h
/-! ### rows[x][y] -/
theorem ix2D_get {xss : List (List D)} {a b : Int} {d : D} (h : ix2D xss a b = some d) : ∃ k xs j, ixD xss.length a = some k ∧ xss[k]? = some xs ∧ ixD xs.length b = some j ∧ xs[j]? = some d := by
  unfold ix2D at h
  split at h
  · rename_i k hk
    split at h
    · rename_i xs hx
      split at h
      · rename_i j hj; exact ⟨k, xs, j, hk, hx, hj, h⟩
      · cases h
    · cases h
  · cases h
theorem set2D_get {xss yss : List (List D)} {a b : Int} {d : D} (h : set2D xss a b d = some yss) : ∃ k xs j, ixD xss.length a = some k ∧ xss[k]? = some xs ∧ ixD xs.length b = some j ∧ yss = xss.set k (xs.set j d) := by
  unfold set2D at h
  split at h
  · rename_i k hk
    split at h
    · rename_i xs hx
      split at h
      · rename_i j hj; cases h; exact ⟨k, xs, j, hk, hx, hj, rfl⟩
      · cases h
    · cases h
  · cases h
theorem Rows.atI {us : List V} {xss : List (List D)} {a : Int} {k : Nat} {xs : List D} (r : Rows G Hf H us xss) (h1 : ixD xss.length a = some k) (h2 : xss[k]? = some xs) : ∃ b ws, us[k]? = some (.ref b) ∧ L2.atI us a = some (.ref b) ∧ Hf b = none ∧ H b = some (.lst ws) ∧ Reps G Hf ws xs := by
  obtain ⟨b, ws, q1, q2, q3, q4⟩ := r.getD h2
  refine ⟨b, ws, q1, ?_, q2, q3, q4⟩
  unfold L2.atI
  rw [ixD_ixN, ← r.length] at h1
  rw [h1]
  exact q1
theorem x_ix2 {r k1 k2 : Expr} {p1 p2 : Pos} {i : Nat} {x y : E} (hr : PE X r (tVar i)) (hx : PE X k1 (tCalm T X.K x)) (hy : PE X k2 (tCalm T X.K y)) (s1 : notSlice k1 = true) (s2 : notSlice k2 = true) :
    PE X (.Subscript (.Subscript r k1 p1) k2 p2) (TX T X.K W (ev P C (.ix2 i x y))) := (pe_ix ix_list (pe_ix ix_list hr hx (plainIx s1)) hy (plainIx s2)).weak fun σ H Q q => by
  obtain ⟨ρ, Hf, res, E, h1, h2⟩ := q
  rw [ev] at h1
  split at h1
  · rename_i xss a b g1 g2 g3
    split at h1
    · rename_i d hd
      cases h1
      obtain ⟨k, xs, j, e1, e2, e3, e4⟩ := ix2D_get hd
      obtain ⟨v, f1, p, us, f2, f3, f4, f5, f6, f7⟩ := E.slot i _ (get_some g1)
      obtain ⟨c, ws, q1, q2, q3, q4, q5⟩ := f5.atI e1 e2
      obtain ⟨w, r1, r2⟩ := q5.getD e4
      refine ⟨v, f1, ρ, Hf, a, E, g2, p, us, a, _, f2, rfl, .of f4, q2, ρ, Hf, b, E, g3, c, ws, b, w, rfl, rfl, .of q4, ?_, h2 _ _ _ (.refl E) r2 .fr⟩
      unfold L2.atI
      rw [ixD_ixN, ← q5.length] at e3
      rw [e3]
      exact r1
    · cases h1
  · cases h1
/-! ### stores -/
theorem Rows.set {b : Addr} {ws : List V} {ys : List D} (r2 : Reps G Hf ws ys) : ∀ {us : List V} {xss : List (List D)} {k : Nat}, Rows G Hf H us xss → us.Nodup → us[k]? = some (.ref b) → Rows G Hf (upd H b (.lst ws)) us (xss.set k ys)
  | _, _, k, .nil, _, h => by simp at h
  | _, _, 0, .cons h1 h2 h3 r, nd, h => by
    simp at h
    subst h
    have nb := (List.nodup_cons.mp nd).1
    exact .cons h1 upd_same r2 (r.move (Same.refl _) (fun c q => upd_ne fun z => nb (z ▸ q)) fun c q => (r.mem q).1)
  | _, _, k + 1, .cons h1 h2 h3 r, nd, h => by
    have h' := by simpa using h
    obtain ⟨nb, nd'⟩ := List.nodup_cons.mp nd
    exact .cons h1 (by rw [upd_ne fun z => nb (by rw [z]; exact List.mem_of_getElem? h')]; exact h2) h3 (Rows.set r2 r nd' h')
def rdL (T : Tx) (K : PySem.W.Frag) : Tl → TG
  | .nm i => gName i
  | .sub i x => gSub (tVar i) (tCalm T K x) rSetL
  | .sub2 i x y => gSub (tOp (rIxL K) (tVar i) (tCalm T K x)) (tCalm T K y) rSetL
def okTl (S : Sc) : Tl → Expr → Bool
  | .nm i, .Name x _ => decide (S.N[i]? = some x) && S.loc x
  | .sub i x, .Subscript o k _ => okV S i o && notSlice k && okCalm S x k
  | .sub2 i x y, .Subscript (.Subscript o k _) k2 _ => okV S i o && notSlice k && notSlice k2 && okCalm S x k && okCalm S y k2
  | _, _ => false
theorem asSub' {o k : Expr} {p : Pos} {env : Env} (h : notSlice k = true) (v : Value) : assign (.Subscript o k p) env v = (do
      let ov ← holding [v] (PySem.eval o env)
      let iv ← holding [v, ov] (PySem.eval k env)
      standAt p
      holding [v, ov, iv] (setItem ov iv v)
      release [v, ov, iv] []) := by
  cases k <;> first | rfl | cases h
theorem okTl_pg (nd : X.N.Nodup) (so : ScOk S X) {t : Tl} {e : Expr} (h : okTl S t e = true) : PG X e (rdL T X.K t) := by
  unfold okTl at h
  split at h
  · rename_i i x p
    rw [Bool.and_eq_true, decide_eq_true_eq, ← so.N] at h
    obtain ⟨l1, l2⟩ := so.loc x h.2
    exact pg_name nd h.1 l1 l2
  · rename_i i x o k p
    simp only [Bool.and_eq_true] at h
    obtain ⟨h1, y, q, rfl, _⟩ := okV_pe so h.1.1
    exact pg_sub h1 (okCalm_pe so h.2) set_list (asSub' h.1.2)
  · rename_i i x y o k p k2 p2
    simp only [Bool.and_eq_true] at h
    obtain ⟨⟨⟨⟨g1, g2⟩, g3⟩, g4⟩, g5⟩ := h
    obtain ⟨h1, z, q, rfl, _⟩ := okV_pe so g1
    exact pg_sub (pe_ix ix_list h1 (okCalm_pe so g4) (plainIx g2)) (okCalm_pe so g5) set_list (asSub' g3)
  · cases h
def Tl.slot : Tl → Nat
  | .nm i => i
  | .sub i _ => i
  | .sub2 i _ _ => i
/-- a store at a place -/
theorem asgL_rd {mu : List Nat} {σ0 : St} {ρ0 : EnvD} {Hf0 H0 : Hp} {d : D} {x : V} {ρ' : EnvD} {Q : St → Hp → Prop} {t : Tl} (hl : t.slot < σ.length) (st : Stp (T.gm K) σ0 ρ0 Hf0 H0 σ ρ Hf H) (k : KeepS mu σ0 σ)
    (h : asgL mu ρ d t = some ρ') (r : Rep (T.gm K) Hf x d) (q : ∀ σ' H', Stp (T.gm K) σ0 ρ0 Hf0 H0 σ' ρ' Hf H' → KeepS mu σ0 σ' → σ'.length = σ.length → Q σ' H') : rdL T K t x σ H Q := by
  cases t with
  | nm i =>
    have h' : (if mu.contains i then none else some (ρ.set i (some (.fr d)))) = some ρ' := h
    cases hc : mu.contains i with
    | true => rw [hc] at h'; cases h'
    | false =>
      rw [hc] at h'
      cases h'
      exact q _ _ (st.store (e := .fr d) r (fun a z => z.fr.elim) hl) (k.store hc) (by simp)
  | sub i y =>
    unfold asgL at h
    dsimp only at h
    split at h
    · rename_i xs a g1 g2
      split at h
      · rename_i j hj
        cases h
        obtain ⟨p, us, f1, f2, f3, f4⟩ := st.list g1
        refine ⟨_, f1, ρ, Hf, a, st.er, g2, p, us, a, j, rfl, rfl, f3, ?_, q _ _ (st.setL g1 f1 f2 (f4.set j r)) k rfl⟩
        rw [← ixD_ixN, f4.length]; exact hj
      · cases h
    · cases h
  | sub2 i y z =>
    unfold asgL at h
    dsimp only at h
    split at h
    · rename_i xss a b g1 g2 g3
      split at h
      · rename_i yss hy
        cases h
        obtain ⟨kk, xs, j, e1, e2, e3, rfl⟩ := set2D_get hy
        obtain ⟨v, f1, p, us, f2, f3, f4, f5, f6, f7⟩ := st.er.slot i _ (get_some g1)
        obtain ⟨c, ws, q1, q2, q3, q4, q5⟩ := f5.atI e1 e2
        subst f2
        have cm : V.ref c ∈ us := List.mem_of_getElem? q1
        have cp : p ≠ c := fun z => f7 (by rw [z]; exact cm)
        refine ⟨_, f1, ρ, Hf, a, st.er, g2, p, us, a, _, rfl, rfl, .of f4, q2, ρ, Hf, b, st.er, g3, c, ws, b, j, rfl, rfl, q4, ?_, ?_⟩
        · rw [← ixD_ixN, q5.length]; exact e3
        · refine q _ _ (st.write (get_some g1) f1 (fun a n => upd_ne fun z => n (.inr ⟨p, us, rfl, f4, by rw [z]; exact cm⟩)) ⟨p, us, rfl, f3, by rw [upd_ne cp]; exact f4, Rows.set (q5.set j r) f5 f6 q1, f6, f7⟩ fun a z => ?_) k rfl
          rcases z with z | ⟨p', us', z1, z2, z3⟩
          · exact .inl z
          · cases z1
            rw [upd_ne cp] at z2
            exact .inr ⟨p, us', rfl, z2, z3⟩
      · cases h
    · cases h
def gLs (T : Tx) (K : PySem.W.Frag) : List Tl → TGs
  | [] => gNil
  | t :: ts => gCons (rdL T K t) (gLs T K ts)
def okTls (S : Sc) : List Tl → List Expr → Bool
  | [], [] => true
  | t :: ts, e :: es => okTl S t e && okTls S ts es
  | _, _ => false
theorem okTl_nostar {t : Tl} {e : Expr} (h : okTl S t e = true) : notStar e = true := by
  unfold okTl at h
  split at h <;> first | rfl | cases h
theorem asEach {e : Expr} {es : List Expr} {env : Env} (h : notStar e = true) : assignEach (e :: es) env = (false, assign e env) :: assignEach es env := by
  cases e <;> first | rfl | cases h
theorem okTls_pgs (nd : X.N.Nodup) (so : ScOk S X) : ∀ {ts : List Tl} {es : List Expr}, okTls S ts es = true → PGs X es (gLs T X.K ts) ∧ (assignEach es X.env).length = ts.length ∧ (assignEach es X.env).findIdx? (·.1) = none
  | [], [], _ => ⟨pgs_nil, rfl, rfl⟩
  | t :: ts, e :: es, h => by
    have h' : (okTl S t e && okTls S ts es) = true := h
    rw [Bool.and_eq_true] at h'
    obtain ⟨a, b, c⟩ := okTls_pgs nd so h'.2
    have e1 := asEach (es := es) (env := X.env) (okTl_nostar h'.1)
    refine ⟨pgs_cons (okTl_pg nd so h'.1) a (by rw [e1]; rfl), ?_, ?_⟩
    · rw [e1, List.length_cons, b, List.length_cons]
    · rw [e1, List.findIdx?_cons]
      simp [c]
  | [], _ :: _, h => by cases h
  | _ :: _, [], h => by cases h
theorem okTl_slot {t : Tl} {e : Expr} (h : okTl S t e = true) : t.slot < S.N.length := by
  have v : ∀ {i : Nat} {o : Expr}, okV S i o = true → i < S.N.length := fun {i o} h => by
    cases o with
    | Name x p =>
      have h' : (decide (S.N[i]? = some x) && S.vis x && noDbg x) = true := h
      simp only [Bool.and_eq_true, decide_eq_true_eq] at h'
      exact lt_of_get h'.1.1
    | _ => cases h
  unfold okTl at h
  split at h
  · rw [Bool.and_eq_true, decide_eq_true_eq] at h; exact lt_of_get h.1
  · simp only [Bool.and_eq_true] at h; exact v h.1.1
  · simp only [Bool.and_eq_true] at h; exact v h.1.1.1.1
  · cases h
theorem asgLs_rd {mu : List Nat} {σ0 : St} {ρ0 : EnvD} {Hf0 H0 : Hp} {n : Nat} {ρ' : EnvD} {Q : St → Hp → Prop} : ∀ {ts : List Tl} {ds : List D} {xs : List V} {σ : St} {ρ : EnvD} {H : Hp}, (∀ t ∈ ts, t.slot < n) → σ.length = n → Stp (T.gm K) σ0 ρ0 Hf0 H0 σ ρ Hf H → KeepS mu σ0 σ →
    asgLs mu ρ ds ts = some ρ' → Reps (T.gm K) Hf xs ds → (∀ σ' H', Stp (T.gm K) σ0 ρ0 Hf0 H0 σ' ρ' Hf H' → KeepS mu σ0 σ' → Q σ' H') → gLs T K ts xs σ H Q
  | [], [], _, _, _, _, _, _, st, k, h, .nil, q => by cases h; exact ⟨rfl, q _ _ st k⟩
  | t :: ts, d :: ds, _, σ, ρ, H, hn, hl, st, k, h, .cons r rs, q => by
    rw [asgLs] at h
    cases ha : asgL mu ρ d t with
    | none => rw [ha] at h; cases h
    | some ρ2 =>
      rw [ha] at h
      refine ⟨_, _, rfl, asgL_rd (by rw [hl]; exact hn t List.mem_cons_self) st k ha r fun σ' H' st' k' hl' => ?_⟩
      exact asgLs_rd (fun t' ht => hn t' (List.mem_cons_of_mem _ ht)) (hl'.trans hl) st' k' h rs q
  | [], _ :: _, _, _, _, _, _, _, _, _, h, _, _ => by simp [asgLs] at h
  | _ :: _, [], _, _, _, _, _, _, _, _, h, _, _ => by simp [asgLs] at h
def isSubs : Expr → Bool
  | .Subscript _ _ _ => true
  | _ => false
theorem isSubs_ok {e : Expr} (h : isSubs e = true) : ∃ a b p, e = .Subscript a b p := by
  cases e <;> first | exact ⟨_, _, _, rfl⟩ | cases h
/-- a target that is no plain local -/
def noFast (sc : Scope) : Expr → Bool
  | .Subscript _ _ _ => true
  | .Name x _ => match sc.names.lookup x with
    | some .cell => true
    | _ => false
  | _ => false
/-- stores at once, not all of them to plain locals -/
theorem sw_subs {ts vs : List Expr} {k k2 : Nat} {p p2 : Pos} {env : Env} (h : ts.any (noFast env.scope) = true) : swappedStores [.Tuple ts k p] (.Tuple vs k2 p2) env = pure none := by
  obtain ⟨t, ht, hn⟩ := List.any_eq_true.mp h
  unfold swappedStores
  dsimp only
  split
  · rfl
  · split
    · rfl
    · rw [if_pos]
      rw [Bool.or_eq_true]
      refine .inl ?_
      rw [bne_iff_ne]
      intro e
      have := List.filterMap_length_eq_length.mp e t ht
      revert this
      cases t <;> first | (intro z; cases z; done) | skip
      · rename_i x q
        have kd : env.kindOf x = some .cell := by
          show env.scope.names.lookup x = _
          have hn' : (match env.scope.names.lookup x with | some .cell => true | _ => false) = true := hn
          split at hn'
          · assumption
          · cases hn'
        intro z
        dsimp only at z
        rw [kd] at z
        rw [show (some NameKind.cell == some NameKind.local) = false from rfl] at z
        simp at z

theorem s_st {mu : List Nat} {tg e : Expr} {e' : E} {t : Tl} {pos : Pos} (nd : X.N.Nodup) (so : ScOk S X) (ht : okTl S t tg = true) (hb : isSubs tg = true) (he : PE X e (TX T X.K W (ev P C e'))) (hs : notComp e = true) :
    PS X (.Assign [tg] e pos) (TSt T X.K W mu (exec P C (.st t e') mu)) := ⟨fun pins s σ H D I q => by
  obtain ⟨a, b, p0, rfl⟩ := isSubs_ok hb
  refine (ps_asg he (okTl_pg (T := T) nd so ht) (swS hs) rfl rfl).run pins s σ H D I ?_
  obtain ⟨ρ, Hf, res, E, h, p⟩ := q
  rw [exec] at h
  refine TX.bindF E h p fun v ρ1 u Hf1 H1 kk st r m => ?_
  obtain ⟨Hf1', st1, r1⟩ := st.fz r m
  cases ha : asgL mu ρ1 v.fz t with
  | none => rw [ha] at kk; cases kk
  | some ρ2 =>
    rw [ha] at kk
    cases kk
    exact asgL_rd (by rw [I.len, so.N]; exact okTl_slot ht) st1 .refl ha r1 fun σ' H' st' k' _ => p σ' Hf1' H' st' k'⟩
theorem okTls_slots : ∀ {ts : List Tl} {es : List Expr}, okTls S ts es = true → ∀ t ∈ ts, t.slot < S.N.length
  | [], [], _, t, h => by cases h
  | t :: ts, e :: es, h, t', ht => by
    have h' : (okTl S t e && okTls S ts es) = true := h
    rw [Bool.and_eq_true] at h'
    rcases List.mem_cons.mp ht with z | z
    · rw [z]; exact okTl_slot h'.1
    · exact okTls_slots h'.2 t' z
  | [], _ :: _, h, _, _ => by cases h
  | _ :: _, [], h, _, _ => by cases h
theorem asgLs_len {mu : List Nat} : ∀ {ts : List Tl} {ds : List D} {ρ ρ' : EnvD}, asgLs mu ρ ds ts = some ρ' → ds.length = ts.length
  | [], [], _, _, _ => rfl
  | t :: ts, d :: ds, ρ, ρ', h => by
    rw [asgLs] at h
    cases ha : asgL mu ρ d t with
    | none => rw [ha] at h; cases h
    | some ρ2 => rw [ha] at h; exact congrArg Nat.succ (asgLs_len h)
  | [], _ :: _, _, _, h => by simp [asgLs] at h
  | _ :: _, [], _, _, h => by simp [asgLs] at h
theorem bindF_ods {r : EnvD → Option (R (List OD))} {k : List OD → EnvD → Option F} {Q : List V → Hp → Prop} {res : F} {mu : List Nat} {D : Ends} (E : ER (T.gm K) σ ρ Hf H) (h : bindF (r ρ) k = some res) (p : FPost T K W mu D σ ρ Hf H res)
    (ok : ∀ o ρ1 vs Hf1 H1, k o ρ1 = some res → Stp (T.gm K) σ ρ Hf H σ ρ1 Hf1 H1 → ORs (T.gm K) σ Hf1 vs o → Q vs H1) : TL T K W r σ H Q := by
  cases hr : r ρ with
  | none => rw [hr] at h; cases h
  | some y =>
    cases y with
    | ex x =>
      rw [hr] at h
      have h' : some (F.ex x) = some res := h
      cases h'
      exact ⟨ρ, Hf, _, E, hr, p.raised⟩
    | ok o ρ1 =>
      rw [hr] at h
      exact ⟨ρ, Hf, _, E, hr, fun vs Hf1 H1 s q => ok o ρ1 vs Hf1 H1 h s q⟩
theorem s_sts {mu : List Nat} {t : Expr} {tgs es : List Expr} {es' : Es} {ts : List Tl} {k k2 : Nat} {p1 p2 pos : Pos} (nd : X.N.Nodup) (hc : X.calm = true) (so : ScOk S X) (ht : okTls S ts (t :: tgs) = true) (hb : (t :: tgs).any (noFast S.sc) = true) (hl : ts.length ≤ 100) (he : PA X es (TL T X.K W (evl P C es'))) :
    PS X (.Assign [.Tuple (t :: tgs) k p1] (.Tuple es k2 p2) pos) (TSt T X.K W mu (exec P C (.sts ts es') mu)) := ⟨fun pins s σ H D I q => by
  obtain ⟨pg, h1, h2⟩ := okTls_pgs (T := T) nd so ht
  refine (ps_asg (pe_tup he) (pg_tup hc pg h1 h2) (swS rfl) (sw_subs (by rw [so.sc]; exact hb)) rfl).run pins s σ H D I ?_
  obtain ⟨ρ, Hf, res, E, h, p⟩ := q
  rw [exec] at h
  refine bindF_ods E h p fun ods ρ1 vs Hf1 H1 kk st ors => ?_
  by_cases c : (ods.all OD.isD && decide (2 ≤ ods.length)) = true
  · rw [if_pos c] at kk
    rw [Bool.and_eq_true] at c
    cases hv : views ρ1 ods with
    | none => rw [hv] at kk; cases kk
    | some ds =>
      rw [hv] at kk
      dsimp only at kk
      cases ha : asgLs mu ρ1 ds ts with
      | none => rw [ha] at kk; cases kk
      | some ρ2 =>
        rw [ha] at kk
        cases kk
        have rs := Reps.all ors c.1 hv
        have hlen : vs.length = ts.length := by rw [rs.length, asgLs_len ha]
        refine ⟨by rw [hlen, sizeLine_eq]; omega, fun q hq => ⟨q, vs, rfl, .inl (.inl upd_same), hlen, ?_⟩⟩
        have g : Gr Hf1 H1 Hf1 (upd H1 q (.tup vs)) := .loose st.er.sub hq
        exact asgLs_rd (n := S.N.length) (okTls_slots ht) (by rw [I.len, so.N]) (st.trans (g.stp st.er)) .refl ha rs fun σ' H' st' k' => p σ' Hf1 H' st' k'
  · rw [if_neg c] at kk; cases kk⟩
/-! ### tables made -/
noncomputable def ltS (P : Prog) (C : Orc) (t : Tg) (e : E) (vs : List Nat) (x : D) (ρ : EnvD) : Option (R (List D)) := match asgT [] t (.fr x) ρ with
        | none => none
        | some ρ' => bindR (ev P C e ρ') fun v ρ3 => match v with
          | .ow ys => some (.ok ys (wipeD ρ3 vs))
          | _ => none
/-- rows that nothing knows -/
structure Unk (σ : St) (ρ : EnvD) (H : Hp) (us : List V) : Prop where
  no : ∀ b, V.ref b ∈ us → ¬ Own σ ρ H b
theorem Rows.unk {σ2 : St} (s : Stp G σ ρ Hf H σ2 ρ2 Hf2 H2) {us : List V} {xss : List (List D)} (r : Rows G Hf H us xss) (u : ∀ b, V.ref b ∈ us → ¬ Own σ ρ H b) : Rows G Hf2 H2 us xss ∧ ∀ b, V.ref b ∈ us → ¬ Own σ2 ρ2 H2 b := by
  have key : ∀ b, V.ref b ∈ us → H2 b = H b ∧ Hf2 b = none ∧ ¬ Own σ2 ρ2 H2 b := fun b hb => by
    obtain ⟨k1, ws, k2⟩ := r.mem hb
    obtain ⟨q1, q2, q3⟩ := s.unk k2 k1 (u b hb)
    exact ⟨q1.trans k2.symm, q2, q3⟩
  exact ⟨r.move s.ext (fun b h => (key b h).1) fun b h => (key b h).2.1, fun b h => (key b h).2.2⟩
theorem Rows.append {us ws : List V} {xss yss : List (List D)} : Rows G Hf H us xss → Rows G Hf H ws yss → Rows G Hf H (us ++ ws) (xss ++ yss)
  | .nil, q => q
  | .cons h1 h2 h3 r, q => .cons h1 h2 h3 (r.append q)
open Classical in
/-- the reading of a comprehension that makes a table -/
theorem lt_conv {own : List (Str × Nat)} {it : Ev.It} {t : Tg} {g : TG} {e' : E} {n : Nat} {σ : St} {H : Hp} {Q : VK} (htg : TgOk T K n t g) (hix : ∀ i ∈ t.ixs, i ∈ own.map (·.2)) (hb : ∀ j, it = .seq (.bor j) → j ∉ own.map (·.2)) (hlen : σ.length = n)
    (q : TX T K W (ev P C (.lt (own.map (·.2)) t it e')) σ H Q) : tLc (TIt T K W (evI P C it)) g (TT' T K W0 (evC P C .nil)) (TX T K W0 (ev P C e')) (own.map (·.2)) σ H Q := by
  obtain ⟨ρ, Hf, res, E, h, p⟩ := q
  rw [ev] at h
  cases hx : evI P C it ρ with
  | none => rw [hx] at h; cases h
  | some y =>
  rw [hx] at h
  cases y with
  | ex x => cases h; exact ⟨ρ, Hf, _, E, hx, p⟩
  | ok src ρ1 =>
  obtain ⟨xs, b0⟩ := src
  generalize hvs : own.map (·.2) = vs at *
  have h' : (match ltL b0 (ltS P C t e' vs) xs [] (wipeD ρ1 vs) with
      | some (.ok ys ρ2) => some (R.ok (EV.tb ys) (backD ρ1 ρ2 vs))
      | _ => none) = some res := h
  cases hl : ltL b0 (ltS P C t e' vs) xs [] (wipeD ρ1 vs) with
  | none => rw [hl] at h'; cases h'
  | some z =>
  rw [hl] at h'
  cases z with
  | ex x => cases h'
  | ok ys ρ2 =>
  cases h'
  refine ⟨ρ, Hf, _, E, hx, fun J Hf1 H1 Pp st wk so => ?_⟩
  intro D hD
  have hfD : Hf1 D = none := by
    cases q : Hf1 D with
    | none => rfl
    | some u => rw [st.er.sub D u q] at hD; cases hD
  have noO : ¬ Own σ ρ1 H1 D := fun z => by
    obtain ⟨_, ob, q⟩ := st.er.own z
    rw [hD] at q; cases q
  let mu := (List.range n).filter fun i => !vs.contains i
  have hmu : ∀ i, i ∈ mu ↔ i < n ∧ i ∉ vs := fun i => by simp [mu]
  refine ⟨fun k m H' => m = xs.length - k ∧ k ≤ xs.length ∧ ∃ ρ' Hf' acc us, Stp (T.gm K) (L2.wipe σ vs) (wipeD ρ1 vs) Hf1 H1 (L2.wipe σ vs) ρ' Hf' H' ∧ Same Hf1 Hf' ∧ Ev.same b0 (wipeD ρ1 vs) ρ' ∧ H' D = some (.lst us) ∧ Hf' D = none ∧ ¬ Own (L2.wipe σ vs) ρ' H' D ∧ (Rows (T.gm K) Hf' H' us acc ∧ us.Nodup ∧ V.ref D ∉ us ∧ (∀ b, V.ref b ∈ us → ¬ Own (L2.wipe σ vs) ρ' H' b) ∧ ∀ b, V.ref b ∈ us → Own (L2.wipe σ vs) (wipeD ρ1 vs) H1 b ∨ H1 b = none) ∧
      ltL b0 (ltS P C t e' vs) (xs.drop k) acc ρ' = some (.ok ys ρ2), ?_, ?_⟩
  · refine ⟨xs.length, by simp, Nat.zero_le _, wipeD ρ1 vs, Hf1, [], [], (Stp.refl st.er.wipe).other hD hfD fun z => noO z.unwipe, Same.refl _, by cases b0 <;> simp [Ev.same], upd_same, hfD, fun z => noO ((Own.other st.er.wipe fun z => noO z.unwipe).mp z).unwipe, ⟨.nil, List.nodup_nil, by simp, by simp, by simp⟩, hl⟩
  rintro k m H' ⟨rfl, hk, ρ', Hf', acc, us, st', ext, sm, hD', hfD', noO', ⟨ra, rn, rD, ru, rm⟩, hf⟩
  have hnl : ∀ j, b0 = some j → j ∉ vs := fun j e => by subst e; exact hb j (evI_src hx)
  have pp : Pp Hf' H' := by
    cases hb0 : b0 with
    | none => subst hb0; exact so Hf' H' ext
    | some j =>
      have hj := hnl j hb0
      subst hb0
      obtain ⟨e0, v, g1, g2, g3⟩ := so
      have g4 : get ρ' j = get (wipeD ρ1 vs) j := sm
      have g5 : (wipeD ρ1 vs)[j]? = some (some e0) := wipeD_of (get_some g1) hj
      have g6 : get (wipeD ρ1 vs) j = some e0 := by unfold Ev.get; rw [g5]
      obtain ⟨w, k1, k2⟩ := st'.er.slot j _ (get_some (g4.trans g6))
      have := (wipe_some k1).1
      rw [g2] at this
      cases this
      exact g3 _ _ k2
  obtain ⟨stop, go⟩ := wk Hf' H' st'.er.sub pp
  by_cases hlt : k < xs.length
  · rw [List.drop_eq_getElem_cons hlt, ltL] at hf
    obtain ⟨g1, g2⟩ := go k xs[k] (List.getElem?_eq_getElem hlt)
    refine .inr ⟨g1, fun H3 => ∃ ρ3 Hf3 acc3 us3, Stp (T.gm K) (L2.wipe σ vs) (wipeD ρ1 vs) Hf1 H1 (L2.wipe σ vs) ρ3 Hf3 H3 ∧ Same Hf1 Hf3 ∧ Ev.same b0 (wipeD ρ1 vs) ρ3 ∧ H3 D = some (.lst us3) ∧ Hf3 D = none ∧ ¬ Own (L2.wipe σ vs) ρ3 H3 D ∧ (Rows (T.gm K) Hf3 H3 us3 acc3 ∧ us3.Nodup ∧ V.ref D ∉ us3 ∧ (∀ b, V.ref b ∈ us3 → ¬ Own (L2.wipe σ vs) ρ3 H3 b) ∧ ∀ b, V.ref b ∈ us3 → Own (L2.wipe σ vs) (wipeD ρ1 vs) H1 b ∨ H1 b = none) ∧
      ltL b0 (ltS P C t e' vs) (xs.drop (k + 1)) acc3 ρ3 = some (.ok ys ρ2), fun H3 z => ⟨xs.length - (k + 1), by omega, rfl, hlt, z⟩, fun x H2 y => ?_⟩
    obtain ⟨Hf2, gr, rx⟩ := g2 x H2 y
    have s2 : Stp (T.gm K) (L2.wipe σ vs) ρ' Hf' H' (L2.wipe σ vs) ρ' Hf2 H2 := gr.stp st'.er
    -- the turn
    cases hS : ltS P C t e' vs xs[k] ρ' with
    | none => rw [hS] at hf; cases hf
    | some w =>
    rw [hS] at hf
    cases w with
    | ex x => cases hf
    | ok r ρn =>
    have hf2 : (if Ev.same b0 ρ' ρn then (if acc.length < most then ltL b0 (ltS P C t e' vs) (xs.drop (k + 1)) (acc ++ [r]) ρn else none) else none) = some (.ok ys ρ2) := hf
    have hsn : Ev.same b0 ρ' ρn := by
      by_cases z : Ev.same b0 ρ' ρn
      · exact z
      · rw [if_neg z] at hf2; cases hf2
    rw [if_pos hsn] at hf2
    have smn : Ev.same b0 (wipeD ρ1 vs) ρn := by
      cases b0 with
      | none => trivial
      | some j => exact (show get ρn j = get ρ' j from hsn).trans sm
    unfold ltS at hS
    cases ha : asgT [] t (.fr xs[k]) ρ' with
    | none => rw [ha] at hS; cases hS
    | some ρa =>
    rw [ha] at hS
    dsimp only at hS
    have ha2 : asgT mu t (.fr xs[k]) ρ' = some ρa := asgT_mu ha fun i hi z => ((hmu i).mp z).2 (hix i hi)
    have hwl : (L2.wipe σ vs).length = n := by rw [L2.wipe_length]; exact hlen
    refine htg mu (L2.wipe σ vs) ρ' Hf' H' (L2.wipe σ vs) ρ' Hf2 H2 xs[k] x ρa _ hwl s2 .refl ha2 rx fun σ2 s3 k3 => ?_
    have hw2 : L2.wipe σ2 vs = L2.wipe σ vs := by
      have h1 : σ2.length = σ.length := by rw [k3.len, L2.wipe_length]
      refine lcwipe_eq h1 fun i hi => ?_
      by_cases hi2 : i < n
      · exact k3.at_ i ((hmu i).mpr ⟨hi2, hi⟩)
      · rw [List.getElem?_eq_none (by rw [h1, hlen]; omega), List.getElem?_eq_none (by rw [hwl]; omega)]
    refine ⟨hw2, ?_⟩
    refine ⟨ρa, Hf2, _, s3.er, by rw [evC], fun Hf3 H3 s4 => ?_⟩
    have s5 := s3.trans s4
    have nxt : ∀ {ρ4 : EnvD} {Hf4 H4 : Hp}, Stp (T.gm K) (L2.wipe σ vs) ρ' Hf' H' σ2 ρ4 Hf4 H4 → Stp (T.gm K) (L2.wipe σ vs) (wipeD ρ1 vs) Hf1 H1 (L2.wipe σ vs) (wipeD ρ4 vs) Hf4 H4 := fun {ρ4 Hf4 H4} s => by
      have := (st'.trans s).wipe (vs := vs)
      rw [hw2] at this
      exact this
    have unw : ∀ {ρ4 : EnvD} {H4 : Hp} {b : Addr}, ¬ Own σ2 ρ4 H4 b → ¬ Own (L2.wipe σ vs) (wipeD ρ4 vs) H4 b := fun {ρ4 H4 b} h z => by
      rw [← hw2] at z
      exact h z.unwipe
    dsimp only
    rw [if_pos rfl]
    cases hE : ev P C e' ρa with
    | none => simp only [bindR, hE] at hS; cases hS
    | some w =>
    simp only [bindR, hE] at hS
    cases w with
    | ex x => cases hS
    | ok v ρ4 =>
    dsimp only at hS
    split at hS
    · rename_i r'
      cases hS
      refine ⟨ρa, Hf3, _, s4.er, hE, fun y Hf4 H4 s6 sr mi => ?_⟩
      have s8 := s5.trans s6
      obtain ⟨u1, u2, u3⟩ := s8.unk hD' hfD' noO'
      have hf3 : (if acc.length < most then ltL b0 (ltS P C t e' vs) (xs.drop (k + 1)) (acc ++ [r]) (wipeD ρ4 vs) else none) = some (.ok ys ρ2) := hf2
      have hm : acc.length < most := by
        by_cases z : acc.length < most
        · exact z
        · rw [if_neg z] at hf3; cases hf3
      rw [if_pos hm] at hf3
      obtain ⟨ra8, ru8⟩ := ra.unk s8 ru
      obtain ⟨b, ws, rfl, b1, b2, b3⟩ := sr
      have bmi := mi b rfl
      -- the new row is none of those before
      have old : ∀ {c : Addr} {o : HO}, H' c = some o → Hf' c = none → ¬ Own (L2.wipe σ vs) ρ' H' c → c ≠ b := fun {c o} h1 h2 h3 z => by
        subst z
        obtain ⟨j1, j2, j3⟩ := s5.unk h1 h2 h3
        rcases bmi.1 with y | y
        · exact j3 y
        · rw [j1] at y; cases y
      have bD : D ≠ b := old hD' hfD' noO'
      have bus : V.ref b ∉ us := fun z => by
        obtain ⟨k1, ws', k2⟩ := ra.mem z
        exact old k2 k1 (ru b z) rfl
      have fin : Stp (T.gm K) (L2.wipe σ vs) (wipeD ρ1 vs) Hf1 H1 (L2.wipe σ vs) (wipeD ρ4 vs) Hf4 (upd H4 D (.lst (us ++ [.ref b]))) := (nxt s8).other hD u2 (unw u3)
      have ow : ∀ {c : Addr}, ¬ Own σ2 ρ4 H4 c → ¬ Own (L2.wipe σ vs) (wipeD ρ4 vs) (upd H4 D (.lst (us ++ [.ref b]))) c := fun {c} h z => unw h ((Own.other (nxt s8).er (unw u3)).mp z)
      refine ⟨us, u1, ?_, _, Hf4, acc ++ [r], us ++ [.ref b], fin, ext.trans s8.ext, smn, upd_same, u2, ow u3, ⟨?_, ?_, ?_, ?_, ?_⟩, hf3⟩
      · rw [ra.length]
        exact Nat.lt_trans hm (by decide)
      · refine Rows.append (ra8.move (Same.refl _) (fun c q => upd_ne fun z => by subst z; exact rD q) fun c q => (ra8.mem q).1) (.cons b1 (by rw [upd_ne bD.symm]; exact b2) b3 .nil)
      · rw [List.nodup_append]
        exact ⟨rn, by simp, fun c hc c' hc' z => by
          rw [List.mem_singleton] at hc'
          subst hc'
          exact bus (z ▸ hc)⟩
      · rw [List.mem_append, List.mem_singleton, not_or]
        exact ⟨rD, fun z => bD (by cases z; rfl)⟩
      · intro c hc
        rw [List.mem_append, List.mem_singleton] at hc
        rcases hc with hc | hc
        · exact ow (ru8 c hc)
        · cases hc; exact ow bmi.2
      · intro c hc
        rw [List.mem_append, List.mem_singleton] at hc
        rcases hc with hc | hc
        · exact rm c hc
        · cases hc
          have s9 : Stp (T.gm K) (L2.wipe σ vs) (wipeD ρ1 vs) Hf1 H1 σ2 ρa Hf3 H3 := st'.trans s5
          show Own (L2.wipe σ vs) (wipeD ρ1 vs) H1 b ∨ H1 b = none
          · cases e : H1 b with
            | none => exact .inr rfl
            | some o =>
              by_cases nn : Own (L2.wipe σ vs) (wipeD ρ1 vs) H1 b
              · exact .inl nn
              · have kk := s9.frame b o e nn
                rcases bmi.1 with y | y
                · rcases s9.acc b (.inl y) with z | z | z
                  · exact .inl z
                  · have := (s9.er.own y).1
                    cases e2 : Hf1 b with
                    | none => exact absurd e2 z
                    | some o2 => rw [s9.ext b o2 e2] at this; cases this
                  · rw [e] at z; cases z
                · rw [kk] at y; cases y
    · cases hS
  · have e : k = xs.length := by omega
    subst e
    rw [List.drop_length, ltL] at hf
    cases hf
    have fin := st.trans (st'.unwipe st.er)
    have un2 := (st'.unwipe2 st.er).2
    refine .inl ⟨stop, p (.ref D) Hf' H' fin ⟨D, us, rfl, hfD', hD', ra, rn, rD⟩ fun a z => ?_⟩
    have aD : a = D ∨ V.ref a ∈ us := by
      rcases z with z | ⟨b, vs', z1, z2, z3⟩
      · cases z; exact .inl rfl
      · cases z1
        rw [hD'] at z2
        cases z2
        exact .inr z3
    rcases aD with rfl | hm
    · refine ⟨?_, fun z => (un2 a z).elim (fun ⟨i, e, v, _, h1, h2, h3⟩ => noO ⟨i, e, v, h1, h2, h3⟩) noO'⟩
      cases q : H a with
      | none => exact .inr rfl
      | some o =>
        by_cases w : Own σ ρ H a
        · exact .inl w
        · rw [st.frame a o q w] at hD; cases hD
    · refine ⟨st.fresh ((rm a hm).imp (·.unwipe) id), fun z => (un2 a z).elim (fun ⟨i, e, v, h0, h1, h2, h3⟩ => ?_) (ru a hm)⟩
      rcases rm a hm with ⟨j, e2, w, y1, y2, y3⟩ | y
      · obtain ⟨y4, y5⟩ := wipeD_in y1
        have := st.er.apart i j _ _ _ _ a h1 y4 h2 (wipe_some y2).1 h3 y3
        subst this
        exact y5 h0
      · obtain ⟨_, ob, q⟩ := st.er.own ⟨i, e, v, h1, h2, h3⟩
        rw [y] at q; cases q
theorem x_lt {elt tg iter : Expr} {scope : Scope} {own : List (Str × Nat)} {pos : Pos} {it : Ev.It} {t : Tg} {g : TG} {e' : E} (hc : X.calm = true) (hN : X.N.Nodup) (hi : PI X tg iter (TIt T X.K W (evI P C it))) (bk : BlkOk X.N X.env.scope scope own)
    (hg : ∀ (s : Shared) (H : Hp) (C : Addr) (cl : List (Str × Addr)) (fp : List Addr), PG (X.blk s H scope (compEnvC scope cl C X.env) fp) tg g) (htg : TgOk T X.K X.N.length t g) (hix : ∀ i ∈ t.ixs, i ∈ own.map (·.2)) (hb : ∀ j, it = .seq (.bor j) → j ∉ own.map (·.2))
    (ht : ∀ (s : Shared) (H : Hp) (C' : Addr) (cl : List (Str × Addr)) (fp : List Addr), PTs (X.blk s H scope (compEnvC scope cl C' X.env) fp) [] (TT' T X.K W0 (evC P C .nil)))
    (he : ∀ (s : Shared) (H : Hp) (C' : Addr) (cl : List (Str × Addr)) (fp : List Addr), PE (X.blk s H scope (compEnvC scope cl C' X.env) fp) elt (TX T X.K W0 (ev P C e'))) (hs : ∀ x, foldedSetIterable iter X.env x = pure x) :
    PE X (.ListComp elt [⟨tg, iter, [], 0⟩] scope pos) (TX T X.K W (ev P C (.lt (own.map (·.2)) t it e'))) := ⟨fun pins s σ H Q I q =>
  (pe_lc (own := own) hc hN hi bk hg ht he hs).run pins s σ H Q I (lt_conv htg hix hb I.len q)⟩
end
end Ev
/-! Ev: pop, chained comparisons, list(range(..)), zip. -/
namespace Ev
open PySem PySem.Spec L2 RZ
section
variable {T : Tx} {P : Prog} {C : Orc} {L : Nat} {X : Cx} {W : WX} {K : PySem.W.Frag} {S : Sc}
variable {σ : St} {ρ ρ1 : EnvD} {Hf H Hf1 H1 : Hp} {mu : List Nat}
/-! ### xs.pop() -/
theorem few1 {e : Expr} {p : Pos} (h : notStar e = true) : ((backTo p (starEach [e] X.env)).all (fun x => !x.1) && (backToKw p (keywordEach [] X.env)).all (fun x => x.1.isSome)
      && decide (([e] : List Expr).length + ([] : List Keyword).length + (if ([] : List Keyword).isEmpty then 0 else 1) < 30)) = true := by
  have h1 := few_all (env := X.env) (pos := p) (es := [e]) (by simp [h])
  rw [h1]
  rfl
theorem ow_of {r : Option EV} {f : List D → Option (R EV)} {res : R EV} (h : (match r with | some (.ow xs) => f xs | _ => none) = some res) : ∃ xs, r = some (.ow xs) ∧ f xs = some res := by
  split at h
  · exact ⟨_, rfl, h⟩
  · cases h
theorem x_pop0 {i : Nat} {r : Expr} {p apos : Pos} (hr : PE X r (tVar i)) (hb : notSup r = true) (hline : (apos.endLine == p.line) = true) : PE X (.Call (.Attribute r ("pop" : Str) apos) [] [] p) (TX T X.K W (ev P C (.pop i .nil))) :=
  (pe_bm0 PySem.F.plainAttrs_list PySem.F.slot_list_pop PySem.F.type_list_pop mt_pop hr (attB hb) hline).weak fun σ H Q q => by
    obtain ⟨ρ, Hf, res, E, h, post⟩ := q
    rw [ev] at h
    obtain ⟨xs, g, h⟩ := ow_of (f := fun _ => bindR (evl P C .nil ρ) fun ods ρ1 => match get ρ1 i, views ρ1 ods with
      | some (.ow xs), some [] => match xs.getLast? with
        | some x => some (.ok (.fr x) (ρ1.set i (some (.ow xs.dropLast))))
        | none => none
      | some (.ow xs), some [.int k] => if xs.length ≤ most then match ixD xs.length k with
        | some j => match xs[j]? with
          | some x => some (.ok (.fr x) (ρ1.set i (some (.ow (xs.eraseIdx j)))))
          | none => none
        | none => none
        else none
      | _, _ => none) h
    rw [evl] at h
    simp only [bindR, g, views] at h
    cases hl : xs.getLast? with
    | none => rw [hl] at h; cases h
    | some x =>
      rw [hl] at h
      cases h
      obtain ⟨a, vs, g1, g2, g3, g4⟩ := (Stp.refl E).list g
      have hx : xs[xs.length - 1]? = some x := by rw [← List.getLast?_eq_getElem?]; exact hl
      obtain ⟨v, e1, e2⟩ := g4.getD hx
      refine ⟨_, g1, .inl ⟨rfl, _, .of g3⟩, a, vs, v, rfl, rfl, g3, by rw [g4.length]; exact e1, ?_⟩
      have rd : Reps (T.gm X.K) Hf vs.dropLast xs.dropLast := by
        rw [List.dropLast_eq_take, List.dropLast_eq_take, g4.length]
        exact g4.take _
      exact post v Hf _ ((Stp.refl E).setL g g1 g2 rd) e2 .fr
theorem x_pop1 {i : Nat} {r e : Expr} {e' : E} {p apos : Pos} (hr : PE X r (tVar i)) (hb : notSup r = true) (hline : (apos.endLine == p.line) = true) (he : PE X e (TO T X.K W (evo P C e'))) (hst : notStar e = true) :
    PE X (.Call (.Attribute r ("pop" : Str) apos) [e] [] p) (TX T X.K W (ev P C (.pop i (.cons e' .nil)))) :=
  (pe_bm PySem.F.plainAttrs_list PySem.F.slot_list_pop PySem.F.type_list_pop mt_popAt hr (x_cons he x_nil (starE hst)) (attB hb) (few1 hst) hline (starE hst) rfl).weak fun σ H Q q => by
    obtain ⟨ρ, Hf, res, E, h, post⟩ := q
    rw [ev] at h
    obtain ⟨xs0, g0, h⟩ := ow_of (f := fun _ => bindR (evl P C (.cons e' .nil) ρ) fun ods ρ1 => match get ρ1 i, views ρ1 ods with
      | some (.ow xs), some [] => match xs.getLast? with
        | some x => some (.ok (.fr x) (ρ1.set i (some (.ow xs.dropLast))))
        | none => none
      | some (.ow xs), some [.int k] => if xs.length ≤ most then match ixD xs.length k with
        | some j => match xs[j]? with
          | some x => some (.ok (.fr x) (ρ1.set i (some (.ow (xs.eraseIdx j)))))
          | none => none
        | none => none
        else none
      | _, _ => none) h
    obtain ⟨a0, vs0, g1, _, g3, _⟩ := (Stp.refl E).list g0
    refine ⟨_, g1, .inl ⟨rfl, _, .of g3⟩, ?_⟩
    cases ho : evo P C e' ρ with
    | none => rw [evl_cons, ho] at h; cases h
    | some y =>
    cases y with
    | ex x =>
      rw [evl_cons, ho] at h
      cases h
      exact ⟨ρ, Hf, .ex x, E, by rw [evl_cons, ho]; rfl, post⟩
    | ok o ρ1 =>
      have e1 : evl P C (.cons e' .nil) ρ = some (.ok [o] ρ1) := by rw [evl_cons, ho]; simp only [bindR]; rw [evl]
      rw [e1] at h
      simp only [bindR] at h
      refine ⟨ρ, Hf, .ok [o] ρ1, E, e1, fun vs Hf1 H1 st ors => ?_⟩
      split at h
      · rename_i hv
        simp only [views] at hv
        split at hv
        · cases hv
        · cases hv
      · rename_i xs k g hv
        have rb := RBs.views st.er ors hv
        cases rb with
        | cons rb1 rb2 =>
        cases rb2
        have := rb1.inv_int
        subst this
        by_cases hm : xs.length ≤ most
        case neg => rw [if_neg hm] at h; cases h
        rw [if_pos hm] at h
        split at h
        · rename_i j hj
          split at h
          · rename_i x hx
            cases h
            obtain ⟨a, us, f1, f2, f3, f4⟩ := st.list g
            rw [g1] at f1
            cases f1
            obtain ⟨v, w1, w2⟩ := f4.getD hx
            have hb : -(2 ^ 63) ≤ k ∧ k < 2 ^ 63 ∧ seqIndex? k us.length = some j := by
              have hl := f4.length
              rw [ixD_ixN] at hj
              rw [hl]
              obtain ⟨q1, q2, q3, q4⟩ := ixN_seq hj
              have : (xs.length : Int) ≤ 1000000 := by unfold most at hm; omega
              exact ⟨by omega, by omega, q1⟩
            exact ⟨a0, us, k, j, v, rfl, rfl, f3, hb.1, hb.2.1, hb.2.2, w1, post v Hf1 _ (st.setL g g1 f2 (f4.eraseIdx j)) w2 .fr⟩
          · cases h
        · cases h
      · cases h
/-! ### a < b < c of ints -/
def cmpI : Op → Option (CmpOp × (Int → Int → Bool))
  | .lt => some (.Lt, fun i j => decide (i < j))
  | .le => some (.LtE, fun i j => decide (i ≤ j))
  | .gt => some (.Gt, fun i j => decide (j < i))
  | .ge => some (.GtE, fun i j => decide (j ≤ i))
  | _ => none
theorem cmpI_op {o : Op} {r : CmpOp × (Int → Int → Bool)} (h : cmpI o = some r) : OpR X (compareOp r.1) (rI0 fun i j => .bl (r.2 i j)) ∧ ∀ C' d e, opS P C' o [d, e] = cmpD r.2 d e := by
  cases o <;> cases h
  · exact ⟨op_lt, fun _ _ _ => rfl⟩
  · exact ⟨op_le, fun _ _ _ => rfl⟩
  · exact ⟨op_gt, fun _ _ _ => rfl⟩
  · exact ⟨op_ge, fun _ _ _ => rfl⟩
theorem cmpI_d {o : Op} {r : CmpOp × (Int → Int → Bool)} (h : cmpI o = some r) : ∀ C' d e, opS P C' o [d, e] = cmpD r.2 d e := by
  cases o <;> cases h <;> exact fun _ _ _ => rfl
theorem cmpD_get {f : Int → Int → Bool} {d e : D} {an : An} (h : cmpD f d e = some an) : ∃ i j, d = .int i ∧ e = .int j ∧ an = .ok (.fr (.bl (f i j))) := by
  unfold cmpD at h
  split at h
  · cases h; exact ⟨_, _, rfl, rfl, rfl⟩
  · cases h
theorem chain_bl {o o2 : Op} {r2 : CmpOp × (Int → Int → Bool)} (ho2 : cmpI o2 = some r2) {a b c : E} {e : EV} {ρ ρ1 : EnvD} (h : ev P C (.chain o o2 a b c) ρ = some (.ok e ρ1)) : ∃ k, e = .fr (.bl k) := by
  rw [ev] at h
  cases h1 : ev P C a ρ with
  | none => rw [h1] at h; cases h
  | some y1 =>
  rw [h1] at h
  cases y1 with
  | ex x => cases h
  | ok x ρ2 =>
  simp only [bindR] at h
  cases h2 : ev P C b ρ2 with
  | none => rw [h2] at h; cases h
  | some y2 =>
  rw [h2] at h
  cases y2 with
  | ex x => cases h
  | ok y ρ3 =>
  simp only [] at h
  split at h
  · cases h3 : ev P C c ρ3 with
    | none => rw [h3] at h; cases h
    | some y3 =>
    rw [h3] at h
    cases y3 with
    | ex x => cases h
    | ok z ρ4 =>
    simp only [] at h
    have e2 := cmpI_d (P := P) ho2
    rw [e2] at h
    cases hc2 : cmpD r2.2 y.fz z.fz with
    | none => rw [hc2] at h; cases h
    | some an =>
      rw [hc2] at h
      obtain ⟨j', l, f1, f2, rfl⟩ := cmpD_get hc2
      cases h
      exact ⟨_, rfl⟩
  · cases h; exact ⟨_, rfl⟩
  · cases h
theorem x_chain {o o2 : Op} {r r2 : CmpOp × (Int → Int → Bool)} (ho : cmpI o = some r) (ho2 : cmpI o2 = some r2) {a b c : Expr} {a' b' c' : E} {pos : Pos} (ha : PE X a (TX T X.K W (ev P C a'))) (hb : PE X b (TX T X.K W (ev P C b'))) (hc : PE X c (TX T X.K W (ev P C c')))
    (hm : lastMarks [r.1, r2.1] [b, c] = false) : Snd T X W (.Compare a [r.1, r2.1] [b, c] pos) (ev P C (.chain o o2 a' b' c')) := by
  obtain ⟨p1, e1⟩ := cmpI_op (X := X) (P := P) ho
  obtain ⟨p2, e2⟩ := cmpI_op (X := X) (P := P) ho2
  have conv : ∀ {σ H Q}, TX T X.K W (ev P C (.chain o o2 a' b' c')) σ H Q → tChain (rI0 fun i j => .bl (r.2 i j)) (rI0 fun i j => .bl (r2.2 i j)) (TX T X.K W (ev P C a')) (TX T X.K W (ev P C b')) (TX T X.K W (ev P C c')) σ H Q := fun {σ H Q} q => ?conv
  · refine ⟨(pe_chain p1 p2 ha hb hc hm).weak fun σ H Q q => conv q, (pt_chain p1 p2 ha hb hc hm).weak fun σ H Q q => conv ?_, fun op xs p e => nomatch e⟩
    obtain ⟨ρ, Hf, res, E, h1, h2⟩ := q.get
    cases hv : ev P C (.chain o o2 a' b' c') ρ with
    | none => rw [hv] at h1; cases h1
    | some y =>
      rw [hv] at h1
      cases y with
      | ex x => cases h1; exact TX.mk E hv h2
      | ok e ρ1 =>
        obtain ⟨k, rfl⟩ := chain_bl ho2 hv
        cases h1
        refine TX.mk E hv fun v Hf' H' st sr mi => ?_
        cases (show Rep (T.gm X.K) Hf' v (.bl k) from sr)
        exact ⟨k, rfl, h2 _ _ st⟩
  obtain ⟨ρ, Hf, res, E, h, post⟩ := q
  rw [ev] at h
  refine TX.val E h (fun x ρ1 v Hf1 H1 k st rx => ?_) fun x hx => by subst hx; exact post
  have post1 : Post T X.K W σ ρ1 Hf1 H1 Q res := Post.step st (by cases res <;> exact post)
  refine TX.val st.er k (fun y ρ2 u Hf2 H2 k2 st2 ry => ?_) fun x hx => by subst hx; exact post1
  have post2 : Post T X.K W σ ρ2 Hf2 H2 Q res := Post.step st2 post1
  rw [e1] at k2
  have rx' := rx.mono st2.ext
  split at k2
  · rename_i hcmp
    obtain ⟨i, j, d1, d2, d3⟩ := cmpD_get hcmp
    rw [d1] at rx'
    rw [d2] at ry
    cases rx'
    cases ry
    refine ⟨i, j, rfl, rfl, r.2 i j, rfl, ?_⟩
    cases d3' : r.2 i j with
    | false => rw [d3'] at d3; cases d3
    | true =>
      rw [if_pos rfl]
      refine TX.val st2.er k2 (fun z ρ3 w Hf3 H3 k3 st3 rz => ?_) fun x hx => by subst hx; exact post2
      have post3 : Post T X.K W σ ρ3 Hf3 H3 Q res := Post.step st3 post2
      rw [e2] at k3
      cases hc2 : cmpD r2.2 y.fz z.fz with
      | none => rw [hc2] at k3; cases k3
      | some an =>
        rw [hc2] at k3
        obtain ⟨j', l, f1, f2, rfl⟩ := cmpD_get hc2
        rw [d2] at f1
        cases f1
        rw [f2] at rz
        cases rz
        cases k3
        exact ⟨j, l, rfl, rfl, post3 _ _ _ (.refl st3.er) (Rep.bl _) .fr⟩
  · rename_i hcmp
    obtain ⟨i, j, d1, d2, d3⟩ := cmpD_get hcmp
    rw [d1] at rx'
    rw [d2] at ry
    cases rx'
    cases ry
    refine ⟨i, j, rfl, rfl, r.2 i j, rfl, ?_⟩
    cases d3' : r.2 i j with
    | true => rw [d3'] at d3; cases d3
    | false =>
      rw [if_neg Bool.false_ne_true]
      cases k2
      exact post2 _ _ _ (.refl st2.er) (Rep.bl _) .fr
  · cases k2
/-! ### list(range(..)) -/
theorem rngD_V {a b : Int} : Reps (T.gm K) Hf (rgV a b) (rngD a (b - a).toNat) := by
  unfold rgV rngD
  generalize List.range (b - a).toNat = l
  induction l with
  | nil => exact .nil
  | cons x l ih => exact .cons (.int _) ih
theorem x_lrg1 (hc : X.calm = true) {a : Expr} {a' : E} {p pos p2 pos2 : Pos} (hg : Gl X "list") (hm : X.mg "list" = none) (hg2 : Gl X "range") (hm2 : X.mg "range" = none) (ha : PE X a (TO T X.K W (evo P C a'))) (hst : notStar a = true) :
    PE X (.Call (.Name "list" p) [.Call (.Name "range" p2) [a] [] pos2] [] pos) (TX T X.K W (ev P C (.lrg (.cons a' .nil)))) := (pe_listRg hc hg hm (prg_1 hg2 hm2 ha (starE hst)) rfl).weak fun σ H Q q => by
  obtain ⟨ρ, Hf, res, E, h, post⟩ := q
  rw [ev] at h
  cases ho : evo P C a' ρ with
  | none => rw [evl_cons, ho] at h; cases h
  | some y =>
  cases y with
  | ex x =>
    rw [evl_cons, ho] at h
    cases h
    exact ⟨ρ, Hf, .ex x, E, ho, post⟩
  | ok o ρ1 =>
    have e1 : evl P C (.cons a' .nil) ρ = some (.ok [o] ρ1) := by rw [evl_cons, ho]; simp only [bindR]; rw [evl]
    rw [e1] at h
    simp only [bindR] at h
    refine ⟨ρ, Hf, .ok o ρ1, E, ho, fun v Hf1 H1 st orr => ?_⟩
    split at h
    · rename_i n hv
      have rb := RBs.views (vs := [v]) st.er (.cons orr .nil) hv
      cases rb with
      | cons rb1 rb2 =>
      have := rb1.inv_int
      subst this
      by_cases c : (rngOk n && decide (n.toNat ≤ 10000)) = true
      · rw [if_pos c] at h
        cases h
        rw [Bool.and_eq_true, decide_eq_true_eq] at c
        obtain ⟨k1, k2⟩ := rngOk_ok c.1
        refine ⟨n, rfl, ⟨by decide, by decide, k1, k2, by omega⟩, fun q hq => ?_⟩
        have hf : Hf1 q = none := by
          cases z : Hf1 q with
          | none => rfl
          | some o => rw [st.er.sub _ _ z] at hq; cases hq
        have g : Gr Hf1 H1 Hf1 (upd H1 q (.lst (rgV 0 n))) := .loose st.er.sub hq
        have rr : Reps (T.gm X.K) Hf1 (rgV 0 n) (rngD 0 n.toNat) := by
          have := rngD_V (T := T) (K := X.K) (Hf := Hf1) (a := 0) (b := n)
          rw [Int.sub_zero] at this
          exact this
        refine post _ Hf1 _ (st.trans (g.stp st.er)) ⟨q, _, rfl, hf, upd_same, rr⟩ fun a z => ?_
        cases (show V.ref q = .ref a from z)
        exact ⟨st.fresh (.inr hq), fun z => by
          obtain ⟨_, ob, w⟩ := st.er.own ((Own.grow st.er g.grow).mp z)
          rw [hq] at w; cases w⟩
      · rw [if_neg c] at h; cases h
    · rename_i n m hv
      simp only [views] at hv
      split at hv
      · cases hv
      · cases hv
    · cases h
/-! ### zip -/
theorem zip_get : ∀ {xs ys : List D} {k : Nat} {d : D}, (zipD xs ys)[k]? = some d → ∃ x y, xs[k]? = some x ∧ ys[k]? = some y ∧ d = .tup [x, y]
  | [], ys, k, d, h => by simp [zipD] at h
  | x :: xs, [], k, d, h => by simp [zipD] at h
  | x :: xs, y :: ys, 0, d, h => by simp [zipD] at h; exact ⟨x, y, rfl, rfl, h.symm⟩
  | x :: xs, y :: ys, k + 1, d, h => by
    obtain ⟨a, b, h1, h2, h3⟩ := zip_get (xs := xs) (ys := ys) (k := k) (d := d) (by simpa [zipD] using h)
    exact ⟨a, b, by simpa using h1, by simpa using h2, h3⟩
theorem zip_len : ∀ (xs ys : List D), (zipD xs ys).length = min xs.length ys.length
  | [], ys => by simp [zipD]
  | x :: xs, [] => by simp [zipD]
  | x :: xs, y :: ys => by simp [zipD, zip_len xs ys]
theorem itz_walks {a b : Addr} {vs us : List V} {xs ys : List D} (h1 : SqL K Hf1 a vs) (h2 : SqL K Hf1 b us) (r1 : Reps (T.gm K) Hf1 vs xs) (r2 : Reps (T.gm K) Hf1 us ys) : Walks (T.gm K) (Itz K a b) (zipD xs ys) fun Hf' H' => Same Hf1 Hf' := fun Hf H s p => by
  have q1 := (p.trans s).seq h1
  have q2 := (p.trans s).seq h2
  have ln := zip_len xs ys
  have l1 := r1.length
  have l2 := r2.length
  refine ⟨⟨vs, us, q1, q2, by omega⟩, fun k d hd => ?_⟩
  obtain ⟨x, y, e1, e2, rfl⟩ := zip_get hd
  obtain ⟨v, f1, f2⟩ := r1.getD e1
  obtain ⟨u, g1, g2⟩ := r2.getD e2
  refine ⟨⟨vs, us, v, u, q1, q2, f1, g1⟩, fun w H' hy => ?_⟩
  obtain ⟨p0, x', y', rfl, hp0, rfl, m1, m2⟩ := hy
  have ex := m1 vs q1
  have ey := m2 us q2
  rw [f1] at ex
  rw [g1] at ey
  cases ex
  cases ey
  have g : Gr Hf H (upd Hf p0 (.tup [v, u])) (upd H p0 (.tup [v, u])) := .new s hp0
  exact ⟨_, g, .tup (.inl (.inl upd_same)) (.cons ((f2.mono p).mono g.ext) (.cons ((g2.mono p).mono g.ext) .nil))⟩
theorem itzT_walks {a b : Addr} {vs us : List V} {xs ys : List D} (h1 : SqT K Hf1 a vs) (h2 : SqT K Hf1 b us) (r1 : Reps (T.gm K) Hf1 vs xs) (r2 : Reps (T.gm K) Hf1 us ys) : Walks (T.gm K) (ItzT K a b) (zipD xs ys) fun Hf' H' => Same Hf1 Hf' := fun Hf H s p => by
  have q1 := SqT.same (p.trans s) h1
  have q2 := SqT.same (p.trans s) h2
  have ln := zip_len xs ys
  have l1 := r1.length
  have l2 := r2.length
  refine ⟨⟨vs, us, q1, q2, by omega⟩, fun k d hd => ?_⟩
  obtain ⟨x, y, e1, e2, rfl⟩ := zip_get hd
  obtain ⟨v, f1, f2⟩ := r1.getD e1
  obtain ⟨u, g1, g2⟩ := r2.getD e2
  refine ⟨⟨vs, us, v, u, q1, q2, f1, g1⟩, fun w H' hy => ?_⟩
  obtain ⟨p0, x', y', rfl, hp0, rfl, m1, m2⟩ := hy
  have ex := m1 vs q1
  have ey := m2 us q2
  rw [f1] at ex
  rw [g1] at ey
  cases ex
  cases ey
  have g : Gr Hf H (upd Hf p0 (.tup [v, u])) (upd H p0 (.tup [v, u])) := .new s hp0
  exact ⟨_, g, .tup (.inl (.inl upd_same)) (.cons ((f2.mono p).mono g.ext) (.cons ((g2.mono p).mono g.ext) .nil))⟩
theorem i_zip {a b : Expr} {es' : Es} {p pos tpos : Pos} {elts : List Expr} {kk : Nat} (hg : Gl X "zip") (hm : X.mg "zip" = none) (ha : PA X [a, b] (TL T X.K W (evl P C es'))) (na : notStar a = true) (nb : notStar b = true) :
    PI X (.Tuple elts kk tpos) (.Call (.Name "zip" p) [a, b] [] pos) (TIt T X.K W (evI P C (.zip es'))) := ⟨fun pins s σ H Rr I q => by
  refine (pi_zipA hg hm ha (starE na) (by rw [starE nb]; rfl)).run pins s σ H Rr I ?_
  obtain ⟨ρ, Hf, res, E, h, p⟩ := q
  rw [evI] at h
  refine TL.bind E h (fun ods ρ1 vs Hf1 H1 k st ors => ?_) fun x hx => by subst hx; exact p
  by_cases c : ods.all OD.isD = true
  · rw [if_pos c] at k
    have go : ∀ {d e : D}, views ρ1 ods = some [d, e] → ∃ v u, vs = [v, u] ∧ Rep (T.gm X.K) Hf1 v d ∧ Rep (T.gm X.K) Hf1 u e := fun {d e} hv => by
      have rs := Reps.all ors c hv
      cases rs with
      | cons r1 r2 => cases r2 with
        | cons r2 r3 => cases r3; exact ⟨_, _, rfl, r1, r2⟩
    split at k
    · rename_i xs ys hv
      obtain ⟨v, u, rfl, r1, r2⟩ := go hv
      cases k
      cases r1 with
      | @lst a1 vs1 _ s1 q1 =>
        cases r2 with
        | @lst a2 vs2 _ s2 q2 => exact ⟨a1, a2, vs1, vs2, rfl, .inl ⟨.of (st.er.sub _ _ s1), .of (st.er.sub _ _ s2), p _ Hf1 H1 _ st (itz_walks (.of s1) (.of s2) q1 q2) fun _ _ e => e⟩⟩
    · rename_i xs ys hv
      obtain ⟨v, u, rfl, r1, r2⟩ := go hv
      cases k
      cases r1 with
      | @tup a1 vs1 _ s1 q1 =>
        cases r2 with
        | @tup a2 vs2 _ s2 q2 => exact ⟨a1, a2, vs1, vs2, rfl, .inr ⟨SqT.same st.er.sub s1, SqT.same st.er.sub s2, p _ Hf1 H1 _ st (itzT_walks s1 s2 q1 q2) fun _ _ e => e⟩⟩
    · cases k
  · rw [if_neg c] at k; cases k⟩
end
end Ev
/-! Ev 19: expressions are what the evaluator's syntax says. -/
namespace Ev
open PySem PySem.Spec L2

/-- o.m(xs) -/
def methF : Expr → Option (Expr × Str × List Expr × Bool)
  | .Call (.Attribute o m apos) xs [] pos => some (o, m, xs, apos.endLine == pos.line)
  | _ => none
theorem methF_eq {e : Expr} {r : Expr × Str × List Expr × Bool} (h : methF e = some r) : ∃ a p, e = .Call (.Attribute r.1 r.2.1 a) r.2.2.1 [] p ∧ (a.endLine == p.line) = r.2.2.2 := by
  unfold methF at h
  split at h
  · cases h; exact ⟨_, _, rfl, rfl⟩
  · cases h
def ifF : Expr → Option (Expr × Expr × Expr)
  | .IfExp c a b _ => some (c, a, b)
  | _ => none
theorem ifF_eq {e : Expr} {r : Expr × Expr × Expr} (h : ifF e = some r) : ∃ p, e = .IfExp r.1 r.2.1 r.2.2 p := by
  unfold ifF at h
  split at h
  · cases h; exact ⟨_, rfl⟩
  · cases h
def chF : Expr → Option (CmpOp × CmpOp × Expr × Expr × Expr)
  | .Compare a [q, r] [b, c] _ => some (q, r, a, b, c)
  | _ => none
theorem chF_eq {e : Expr} {r : CmpOp × CmpOp × Expr × Expr × Expr} (h : chF e = some r) : ∃ p, e = .Compare r.2.2.1 [r.1, r.2.1] [r.2.2.2.1, r.2.2.2.2] p := by
  unfold chF at h
  split at h
  · cases h; exact ⟨_, rfl⟩
  · cases h
def isTup : Expr → Bool
  | .Tuple _ _ _ => true
  | _ => false
theorem isTup_eq {e : Expr} (h : isTup e = true) : ∃ a b c, e = .Tuple a b c := by
  cases e <;> first | exact ⟨_, _, _, rfl⟩ | cases h
def nmF : Expr → Option Str
  | .Name x _ => some x
  | _ => none
theorem nmF_eq {e : Expr} {x : Str} (h : nmF e = some x) : ∃ p, e = .Name x p := by
  unfold nmF at h
  split at h
  · cases h; exact ⟨_, rfl⟩
  · cases h
def notSet : Expr → Bool
  | .Set _ _ _ => false
  | _ => true
theorem fsi {e : Expr} {env : Env} (h : notSet e = true) : ∀ x, foldedSetIterable e env x = pure x := by
  cases e <;> first | (intro x; rfl) | cases h
def okT (S : Sc) : Tg → Expr → Bool
  | .nm i, .Name x _ => decide (S.N[i]? = some x) && S.loc x
  | .tp is, .Tuple es _ _ => okNs S.N S.loc is es
  | _, _ => false
structure LcF where
  elt : Expr
  tg : Expr
  iter : Expr
  ifs : List Expr
  scope : Scope
def lcF : Expr → Option LcF
  | .ListComp elt [⟨tg, iter, ifs, 0⟩] scope _ => some ⟨elt, tg, iter, ifs, scope⟩
  | _ => none
theorem lcF_eq {e : Expr} {r : LcF} (h : lcF e = some r) : ∃ p, e = .ListComp r.elt [⟨r.tg, r.iter, r.ifs, 0⟩] r.scope p := by
  unfold lcF at h
  split at h
  · cases h; exact ⟨_, rfl⟩
  · cases h
def isLV (k : Option NameKind) : Bool := match k with
  | some .local => true | some .cell => true | some .free => true
  | _ => false
def isGl (k : Option NameKind) : Bool := match k with
  | some .globalImplicit => true
  | _ => false
def isLo (k : Option NameKind) : Bool := match k with
  | some .local => true
  | _ => false
def isCe (k : Option NameKind) : Bool := match k with
  | some .cell => true
  | _ => false
/-- the names of a comprehension's block -/
def scB (N : List Str) (scope sc : Scope) : Sc where
  N := N
  vis := fun x => isLV ((relS scope sc).names.lookup x)
  gl := fun x => isGl ((relS scope sc).names.lookup x)
  loc := fun x => isLo ((relS scope sc).names.lookup x) || (isCe ((relS scope sc).names.lookup x) && isCe (scope.names.lookup x))
  lcl := fun x => isLo ((relS scope sc).names.lookup x)
  sc := relS scope sc
theorem scB_ok {S : Sc} {X : Cx} (so : ScOk S X) (s : Shared) (H : Hp) (scope : Scope) (C : Addr) (cl : List (Str × Addr)) (fp : List Addr) : ScOk (scB S.N scope S.sc) (X.blk s H scope (compEnvC scope cl C X.env) fp) := by
  have e : relS scope S.sc = relS scope X.env.scope := by rw [so.sc]
  refine ⟨so.N, fun x h => ?_, fun x h => ?_, fun x h => ?_, fun x h => ?_, ?_⟩
  · have h' : isLV ((relS scope S.sc).names.lookup x) = true := h
    rw [e] at h'
    show Vis (relS scope X.env.scope) x
    unfold Vis
    unfold isLV at h'
    split at h' <;> first | (rename_i q; rw [q]; simp) | cases h'
  · have h' : isGl ((relS scope S.sc).names.lookup x) = true := h
    rw [e] at h'
    show (relS scope X.env.scope).names.lookup x = some .globalImplicit
    unfold isGl at h'
    split at h' <;> first | (rename_i q; exact q) | cases h'
  · have h' : (isLo ((relS scope S.sc).names.lookup x) || (isCe ((relS scope S.sc).names.lookup x) && isCe (scope.names.lookup x))) = true := h
    rw [e] at h'
    show Loc (relS scope X.env.scope) x ∧ ((scope.names.lookup x == some .cell) = true ∨ (relS scope X.env.scope).names.lookup x = some .local)
    have lo : ∀ {k : Option NameKind}, isLo k = true → k = some .local := fun {k} h => by
      unfold isLo at h
      split at h <;> first | rfl | cases h
    have ce : ∀ {k : Option NameKind}, isCe k = true → k = some .cell := fun {k} h => by
      unfold isCe at h
      split at h <;> first | rfl | cases h
    rw [Bool.or_eq_true, Bool.and_eq_true] at h'
    rcases h' with z | ⟨z1, z2⟩
    · exact ⟨.inl (lo z), .inr (lo z)⟩
    · exact ⟨.inr (ce z1), .inl (by rw [ce z2]; rfl)⟩
  · have h' : isLo ((relS scope S.sc).names.lookup x) = true := h
    rw [e] at h'
    show (relS scope X.env.scope).names.lookup x = some .local
    unfold isLo at h'
    split at h' <;> first | (rename_i q; exact q) | cases h'
  · show relS scope X.env.scope = relS scope S.sc
    exact e.symm
def ownOf (N : List Str) (vs : List Nat) : List (Str × Nat) := vs.map fun i => (N.getD i Str.empty, i)
theorem ownOf_2 {N : List Str} {vs : List Nat} : (ownOf N vs).map (·.2) = vs := by
  unfold ownOf
  rw [List.map_map]
  exact List.map_id' vs
def notBor (vs : List Nat) : It → Bool
  | .seq (.bor j) => !vs.contains j
  | _ => true
theorem okT_ok {S : Sc} {X : Cx} {T : Tx} (calm : X.calm = true) (nd : X.N.Nodup) (so : ScOk S X) {t : Tg} {tg : Expr} (h : okT S t tg = true) : ∃ g, PG X tg g ∧ TgOk T X.K X.N.length t g := by
  cases t with
  | nm i =>
    cases tg with
    | Name x p =>
      have h' : (decide (S.N[i]? = some x) && S.loc x) = true := h
      rw [Bool.and_eq_true, decide_eq_true_eq, ← so.N] at h'
      obtain ⟨l1, l2⟩ := so.loc x h'.2
      exact ⟨_, pg_name nd h'.1 l1 l2, tg_nm h'.1⟩
    | _ => cases h
  | tp is =>
    cases tg with
    | Tuple es k p =>
      have h' : okNs S.N S.loc is es = true := h
      rw [← so.N] at h'
      obtain ⟨pg, h1, h2⟩ := okNs_pgs nd so.loc h'
      exact ⟨_, pg_tup calm pg h1 h2, tg_tp h'⟩
    | _ => cases h
/-- a target's reading -/
def rdT (K : PySem.W.Frag) : Tg → TG
  | .nm i => gName i
  | .tp is => gTup K is.length (gNs is)
theorem okT_rd {S : Sc} {X : Cx} {T : Tx} (calm : X.calm = true) (nd : X.N.Nodup) (so : ScOk S X) {t : Tg} {tg : Expr} (h : okT S t tg = true) : PG X tg (rdT X.K t) ∧ TgOk T X.K X.N.length t (rdT X.K t) := by
  cases t with
  | nm i =>
    cases tg with
    | Name x p =>
      have h' : (decide (S.N[i]? = some x) && S.loc x) = true := h
      rw [Bool.and_eq_true, decide_eq_true_eq, ← so.N] at h'
      obtain ⟨l1, l2⟩ := so.loc x h'.2
      exact ⟨pg_name nd h'.1 l1 l2, tg_nm h'.1⟩
    | _ => cases h
  | tp is =>
    cases tg with
    | Tuple es k p =>
      have h' : okNs S.N S.loc is es = true := h
      rw [← so.N] at h'
      obtain ⟨pg, h1, h2⟩ := okNs_pgs nd so.loc h'
      exact ⟨pg_tup calm pg h1 h2, tg_tp h'⟩
    | _ => cases h
theorem okT_tg {S : Sc} {X : Cx} {T : Tx} (hN : X.N = S.N) {t : Tg} {tg : Expr} (h : okT S t tg = true) : TgOk T X.K X.N.length t (rdT X.K t) := by
  cases t with
  | nm i =>
    cases tg with
    | Name x p =>
      have h' : (decide (S.N[i]? = some x) && S.loc x) = true := h
      rw [Bool.and_eq_true, decide_eq_true_eq, ← hN] at h'
      exact tg_nm h'.1
    | _ => cases h
  | tp is =>
    cases tg with
    | Tuple es k p =>
      have h' : okNs S.N S.loc is es = true := h
      rw [← hN] at h'
      exact tg_tp h'
    | _ => cases h
theorem Cok.blk {T : Tx} {P : Prog} {C : Orc} {L : Nat} {X : Cx} {W : WX} (ok : Cok T P C L X W) (s : Shared) (H : Hp) (scope : Scope) (C' : Addr) (cl : List (Str × Addr)) (fp : List Addr) : Cok T P C L (X.blk s H scope (compEnvC scope cl C' X.env) fp) W0 :=
  ⟨⟨ok.fac, ok.fns, ok.fill, fun u s' ⟨_, _, _, _, _, _, _, _, _, _, _, _, _, _, _, _, z⟩ => z.elim⟩, ok.calm, ok.nd, ok.room⟩
mutual
def okE (T : Tx) (P : Prog) (S : Sc) : E → Expr → Bool
  | .cst d, e => okCon d e
  | .var i, e => okV S i e
  | .own i, e => okV S i e
  | .bor _, _ => false
  | .mut _, _ => false
  | .glob g, e => match nmF e with
    | some x => okG S (T.gn g) x
    | none => false
  | .op o es, e => match form T S o e with
    | some xs => okEs T P S es xs
    | none => false
  | .and a b, e => match chain2 .And e with
    | some (x, y) => okE T P S a x && okE T P S b y
    | none => false
  | .or a b, e => match chain2 .Or e with
    | some (x, y) => okE T P S a x && okE T P S b y
    | none => false
  | .not a, e => match not1 e with
    | some x => okE T P S a x
    | none => false
  | .ife c a b, e => match ifF e with
    | some (z, x, y) => okE T P S c z && okE T P S a x && okE T P S b y
    | none => false
  | .call f es, e => match callN e with
    | some (n, xs) => T.tl f && okG S (T.ln f) n && okEs T P S es xs
    | none => false
  | .new c es, e => match callN e with
    | some (n, xs) => T.tc c && (P.meth c mInit).isSome && okG S (T.cn c) n && okEs T P S es xs
    | none => false
  | .meth m o es, e => match methF e with
    | some (x, n, xs, l) => (n == T.mn m) && decide (m ≠ mInit) && notSup x && l && decide (xs.length < 29) && okE T P S o x && okEs T P S es xs
    | none => false
  | .chain o o2 a b c, e => match chF e with
    | some (q, r, x, y, z) => match cmpI o, cmpI o2 with
      | some f, some g => decide (f.1 = q) && decide (g.1 = r) && !lastMarks [q, r] [y, z] && okE T P S a x && okE T P S b y && okE T P S c z
      | _, _ => false
    | none => false
  | .lc vs t it cs e', e => match lcF e with
    | some r => okI T P S it r.tg r.iter && okT (scB S.N r.scope S.sc) t r.tg && t.ixs.all vs.contains && notBor vs it && blkC S.N S.sc r.scope (ownOf S.N vs) && okCs T P (scB S.N r.scope S.sc) cs r.ifs && okE T P (scB S.N r.scope S.sc) e' r.elt
    | none => false
  | .lt vs t it e', e => match lcF e with
    | some r => okI T P S it r.tg r.iter && okT (scB S.N r.scope S.sc) t r.tg && t.ixs.all vs.contains && notBor vs it && blkC S.N S.sc r.scope (ownOf S.N vs) && r.ifs.isEmpty && okE T P (scB S.N r.scope S.sc) e' r.elt
    | none => false
  | .ix2 i x y, e => match ixF e with
    | some (a, b) => match ixF a with
      | some (o, k) => okV S i o && notSlice k && notSlice b && okCalm S x k && okCalm S y b
      | none => false
    | none => false
  | .lrg es, e => match callN e with
    | some (n, [y]) => match callN y with
      | some (m, [x]) => okG S ("list" : Str) n && okG S ("range" : Str) m && okEs T P S es [x]
      | _ => false
    | _ => false
  | .pop i es, e => match methF e with
    | some (x, n, xs, l) => (n == ("pop" : Str)) && okV S i x && notSup x && l && decide (xs.length ≤ 1) && okEs T P S es xs
    | none => false
  | .bad, _ => true
def okCs (T : Tx) (P : Prog) (S : Sc) : Es → List Expr → Bool
  | .nil, [] => true
  | .cons c .nil, [x] => okE T P S c x
  | _, _ => false
def okI (T : Tx) (P : Prog) (S : Sc) : It → Expr → Expr → Bool
  | .seq (.bor i), _, e => okV S i e
  | .seq e', _, e => okE T P S e' e && notSet e
  | .rng es, _, e => match callN e with
    | some (n, x :: xs) => okG S ("range" : Str) n && decide (xs.length ≤ 1) && okEs T P S es (x :: xs)
    | _ => false
  | .zip es, tg, e => match callN e with
    | some (n, [x, y]) => isTup tg && okG S ("zip" : Str) n && okEs T P S es [x, y]
    | _ => false
  | .enum _, _, _ => false
def okEs (T : Tx) (P : Prog) (S : Sc) : Es → List Expr → Bool
  | .nil, [] => true
  | .cons (.bor i) es, x :: xs => okV S i x && okEs T P S es xs
  | .cons (.mut i) es, x :: xs => okV S i x && okEs T P S es xs
  | .cons e es, x :: xs => okE T P S e x && notStar x && okEs T P S es xs
  | _, _ => false
end
section
variable {S : Sc} {X : Cx} {T : Tx} {P : Prog} {C : Orc} {L : Nat} {W : WX}
theorem nil_pts : PTs X [] (TT' T X.K W (evC P C .nil)) := ⟨fun pins s σ H Q I q => by
      obtain ⟨ρ, Hf, res, E, h, p⟩ := q
      rw [evC] at h
      cases h
      exact pts_nil.run pins s σ H Q I (p Hf H (.refl E))⟩
theorem okCon_star {d : D} {e : Expr} (h : okCon d e = true) : notStar e = true ∧ plainE e = true := by
  cases e <;> first | exact ⟨rfl, rfl⟩ | (cases d <;> cases h)
mutual
theorem okE_o (mo : MuOk P) : ∀ {e' : E} {e : Expr} {S : Sc} {X : Cx} {W : WX}, Cok T P C L X W → ScOk S X → okE T P S e' e = true → Snd T X W e (ev P C e')
  | .cst d, e, S, X, W, ok, so, h => by
    rw [okE] at h
    obtain ⟨h1, h2⟩ := okCon_pe (X := X) h
    exact snd_plain (x_cst h2) (okCon_star h).2
  | .var i, e, S, X, W, ok, so, h => by
    rw [okE] at h
    obtain ⟨h1, x, p, rfl, _⟩ := okV_pe so h
    exact snd_plain (x_var h1) rfl
  | .own i, e, S, X, W, ok, so, h => by
    rw [okE] at h
    obtain ⟨h1, x, p, rfl, _⟩ := okV_pe so h
    exact snd_plain (x_own h1) rfl
  | .bor _, e, S, X, W, ok, so, h => by rw [okE] at h; cases h
  | .mut _, e, S, X, W, ok, so, h => by rw [okE] at h; cases h
  | .glob g, e, S, X, W, ok, so, h => by
    rw [okE] at h
    split at h
    · rename_i x hx
      obtain ⟨p, rfl⟩ := nmF_eq hx
      obtain ⟨e1, e2, e3⟩ := okG_ok so h
      subst e1
      cases hg : P.glob g with
      | none => exact ⟨⟨fun pins s σ H Q I q => by
          obtain ⟨ρ, Hf, res, E, h, p⟩ := q
          rw [ev, hg] at h; cases h⟩, ⟨fun pins s σ H Q I q => by
          obtain ⟨ρ, Hf, res, E, h, p⟩ := q
          simp only [ev, hg] at h; cases h⟩, fun _ _ _ z => by cases z⟩
      | some d =>
        obtain ⟨u, v, h1, h2, h3⟩ := ok.fac.glob g d hg
        exact snd_plain (x_glob (pe_glob e2 h1 h2 e3) fun d' hd H => by rw [hg] at hd; cases hd; exact h3 H) rfl
    · cases h
  | .op o es, e, S, X, W, ok, so, h => by
    rw [okE] at h
    split at h
    · rename_i xs hf
      exact op_sound ok mo so hf (okEs_o mo ok so h)
    · cases h
  | .and a b, e, S, X, W, ok, so, h => by
    rw [okE] at h
    split at h
    · rename_i x y hc
      obtain ⟨y1, t, p, rfl, e2⟩ := chain2_eq hc
      rw [Bool.and_eq_true] at h
      have sa := okE_o mo ok so h.1
      have sb := okE_o mo ok so h.2
      have sb' : Snd T X W (.BoolOp .And (y1 :: t) p) (ev P C b) := by
        rcases e2 with ⟨e2, rfl⟩ | e2
        · dsimp only at e2; rw [e2] at sb; exact sb.one
        · dsimp only at e2; rw [e2] at sb; exact sb
      have e3 : ev P C (.and a b) = andR (ev P C a) (ev P C b) := by funext ρ; rw [ev]; rfl
      rw [e3]
      exact sa.and sb'
    · cases h
  | .or a b, e, S, X, W, ok, so, h => by
    rw [okE] at h
    split at h
    · rename_i x y hc
      obtain ⟨y1, t, p, rfl, e2⟩ := chain2_eq hc
      rw [Bool.and_eq_true] at h
      have sa := okE_o mo ok so h.1
      have sb := okE_o mo ok so h.2
      have sb' : Snd T X W (.BoolOp .Or (y1 :: t) p) (ev P C b) := by
        rcases e2 with ⟨e2, rfl⟩ | e2
        · dsimp only at e2; rw [e2] at sb; exact sb.one
        · dsimp only at e2; rw [e2] at sb; exact sb
      have e3 : ev P C (.or a b) = orR (ev P C a) (ev P C b) := by funext ρ; rw [ev]; rfl
      rw [e3]
      exact sa.or sb'
    · cases h
  | .not a, e, S, X, W, ok, so, h => by
    rw [okE] at h
    split at h
    · rename_i x hc
      obtain ⟨p, rfl⟩ := not1_eq hc
      have e3 : ev P C (.not a) = notR (ev P C a) := by funext ρ; rw [ev]; rfl
      rw [e3]
      exact (okE_o mo ok so h).not
    · cases h
  | .ife c a b, e, S, X, W, ok, so, h => by
    rw [okE] at h
    split at h
    · rename_i z x y hc
      obtain ⟨p, rfl⟩ := ifF_eq hc
      simp only [Bool.and_eq_true] at h
      have e3 : ev P C (.ife c a b) = ifeR (fun ρ => tst (ev P C c ρ)) (ev P C a) (ev P C b) := by funext ρ; rw [ev]; rfl
      rw [e3]
      exact (okE_o mo ok so h.1.1).ife (okE_o mo ok so h.1.2) (okE_o mo ok so h.2)
    · cases h
  | .call f es, e, S, X, W, ok, so, h => by
    rw [okE] at h
    split at h
    · rename_i n xs hc
      obtain ⟨p, q, rfl⟩ := callN_eq hc
      simp only [Bool.and_eq_true] at h
      obtain ⟨e1, e2, e3⟩ := okG_ok so h.1.2
      have os := okEs_o mo ok so h.2
      cases xs with
      | nil =>
        cases os
        exact snd_plain (x_call0 ok mo e1 h.1.1 e2 e3) rfl
      | cons x xs => exact snd_plain (x_call ok mo e1 h.1.1 e2 e3 os.pa.1 os.pa.2) rfl
    · cases h
  | .new c es, e, S, X, W, ok, so, h => by
    rw [okE] at h
    split at h
    · rename_i n xs hc
      obtain ⟨p, q, rfl⟩ := callN_eq hc
      simp only [Bool.and_eq_true] at h
      obtain ⟨f, hf⟩ := Option.isSome_iff_exists.mp h.1.1.2
      obtain ⟨e1, e2, e3⟩ := okG_ok so h.1.2
      have os := okEs_o mo ok so h.2
      cases xs with
      | nil =>
        cases os
        exact snd_plain (x_new0 ok mo e1 h.1.1.1 hf e2 e3) rfl
      | cons x xs => exact snd_plain (x_new ok mo e1 h.1.1.1 hf e2 e3 os.pa.1 os.pa.2) rfl
    · cases h
  | .meth m o es, e, S, X, W, ok, so, h => by
    rw [okE] at h
    split at h
    · rename_i x n xs l hc
      obtain ⟨ap, p, rfl, hl⟩ := methF_eq hc
      simp only [Bool.and_eq_true, decide_eq_true_eq] at h
      obtain ⟨⟨⟨⟨⟨⟨h1, h2⟩, h3⟩, h4⟩, h5⟩, h6⟩, h7⟩ := h
      have os := okEs_o mo ok so h7
      have e1 := eq_of_beq h1
      dsimp only at e1 hl
      subst e1
      obtain ⟨pl, ht⟩ := methEq (m := T.mn m) (env := X.env) h3 os.pa.2 h5 (hl.trans h4)
      have so1 := (okE_o mo ok so h6).pe
      cases xs with
      | nil =>
        cases os
        exact snd_plain (x_meth0 ok mo h2 so1 ht) rfl
      | cons y ys => exact snd_plain (x_meth ok mo h2 so1 os.pa.1 os.pa.2 ht) rfl
    · cases h
  | .chain o o2 a b c, e, S, X, W, ok, so, h => by
    rw [okE] at h
    split at h
    · rename_i q r x y z hc
      obtain ⟨p, rfl⟩ := chF_eq hc
      split at h
      · rename_i f g hf hg
        simp only [Bool.and_eq_true, decide_eq_true_eq] at h
        obtain ⟨⟨⟨⟨⟨h1, h2⟩, h3⟩, h4⟩, h5⟩, h6⟩ := h
        subst h1
        subst h2
        exact x_chain hf hg (okE_o mo ok so h4).pe (okE_o mo ok so h5).pe (okE_o mo ok so h6).pe (by simpa using h3)
      · cases h
    · cases h
  | .lc vs t it cs e', e, S, X, W, ok, so, h => by
    rw [okE] at h
    split at h
    · rename_i r hc
      obtain ⟨p, rfl⟩ := lcF_eq hc
      simp only [Bool.and_eq_true] at h
      obtain ⟨⟨⟨⟨⟨⟨h1, h2⟩, h3⟩, h4⟩, h5⟩, h6⟩, h7⟩ := h
      obtain ⟨pi, hs⟩ := okI_o mo ok so (tg := r.tg) h1
      have key := x_lc (own := ownOf S.N vs) (W := W) (T := T) (P := P) (C := C) (pos := p) (it := it) (cs := cs) (e' := e') ok.calm ok.nd pi (blkOk_by (by rw [so.sc, so.N]; exact h5)) (fun s H C' cl fp => (okT_rd (T := T) (ok.blk s H r.scope C' cl fp).calm ok.nd (scB_ok so s H r.scope C' cl fp) h2).1) (okT_tg (S := scB S.N r.scope S.sc) so.N h2)
        (fun i hi => by rw [ownOf_2]; exact List.contains_iff_mem.mp (List.all_eq_true.mp h3 i hi)) (fun j hj => by
          subst hj
          rw [ownOf_2]
          intro z
          have h4' : (!vs.contains j) = true := h4
          rw [List.contains_iff_mem.mpr z] at h4'
          cases h4')
        (fun s H C' cl fp => okCs_o mo (ok.blk s H r.scope C' cl fp) (scB_ok so s H r.scope C' cl fp) h6)
        (fun s H C' cl fp => (okE_o mo (ok.blk s H r.scope C' cl fp) (scB_ok so s H r.scope C' cl fp) h7).pe) hs
      rw [ownOf_2] at key
      exact snd_plain key rfl
    · cases h
  | .lt vs t it e', e, S, X, W, ok, so, h => by
    rw [okE] at h
    split at h
    · rename_i r hc
      obtain ⟨p, rfl⟩ := lcF_eq hc
      simp only [Bool.and_eq_true] at h
      obtain ⟨⟨⟨⟨⟨⟨h1, h2⟩, h3⟩, h4⟩, h5⟩, h6⟩, h7⟩ := h
      obtain ⟨elt, tg, iter, ifs, scope⟩ := r
      have h6' : ifs = [] := List.isEmpty_iff.mp h6
      subst h6'
      obtain ⟨pi, hs⟩ := okI_o mo ok so (tg := tg) h1
      have key := x_lt (own := ownOf S.N vs) (W := W) (T := T) (P := P) (C := C) (pos := p) (it := it) (e' := e') ok.calm ok.nd pi (blkOk_by (by rw [so.sc, so.N]; exact h5)) (fun s H C' cl fp => (okT_rd (T := T) (ok.blk s H scope C' cl fp).calm ok.nd (scB_ok so s H scope C' cl fp) h2).1) (okT_tg (S := scB S.N scope S.sc) so.N h2)
        (fun i hi => by rw [ownOf_2]; exact List.contains_iff_mem.mp (List.all_eq_true.mp h3 i hi)) (fun j hj => by
          subst hj
          rw [ownOf_2]
          intro z
          have h4' : (!vs.contains j) = true := h4
          rw [List.contains_iff_mem.mpr z] at h4'
          cases h4')
        (fun s H C' cl fp => nil_pts)
        (fun s H C' cl fp => (okE_o mo (ok.blk s H scope C' cl fp) (scB_ok so s H scope C' cl fp) h7).pe) hs
      rw [ownOf_2] at key
      exact snd_plain key rfl
    · cases h
  | .ix2 i x y, e, S, X, W, ok, so, h => by
    rw [okE] at h
    split at h
    · rename_i a b hc
      split at h
      · rename_i o k hc2
        obtain ⟨p, rfl⟩ := ixF_eq hc
        obtain ⟨p2, e2⟩ := ixF_eq hc2
        dsimp only at e2
        subst e2
        simp only [Bool.and_eq_true] at h
        obtain ⟨⟨⟨⟨h1, h2⟩, h3⟩, h4⟩, h5⟩ := h
        obtain ⟨v1, z, q, rfl, _⟩ := okV_pe so h1
        exact snd_plain (x_ix2 v1 (okCalm_pe so h4) (okCalm_pe so h5) h2 h3) rfl
      · cases h
    · cases h
  | .lrg es, e, S, X, W, ok, so, h => by
    rw [okE] at h
    split at h
    · rename_i n y hc
      split at h
      · rename_i m x hc2
        obtain ⟨p, q, rfl⟩ := callN_eq hc
        obtain ⟨p2, q2, e2⟩ := callN_eq hc2
        subst e2
        simp only [Bool.and_eq_true] at h
        obtain ⟨⟨h1, h2⟩, h3⟩ := h
        obtain ⟨e1, g1, _⟩ := okG_ok so h1
        obtain ⟨e2, g2, _⟩ := okG_ok so h2
        subst e1
        subst e2
        obtain ⟨a', rfl, pa, na⟩ := (okEs_o mo ok so h3).one
        exact snd_plain (x_lrg1 ok.calm g1 (ok.fac.blt _ (by decide +kernel)) g2 (ok.fac.blt _ (by decide +kernel)) pa na) rfl
      · cases h
    · cases h
  | .pop i es, e, S, X, W, ok, so, h => by
    rw [okE] at h
    split at h
    · rename_i x n xs l hc
      obtain ⟨ap, p, rfl, hl⟩ := methF_eq hc
      simp only [Bool.and_eq_true, decide_eq_true_eq] at h
      obtain ⟨⟨⟨⟨⟨h1, h2⟩, h3⟩, h4⟩, h5⟩, h6⟩ := h
      have e1 := eq_of_beq h1
      dsimp only at e1 hl
      subst e1
      obtain ⟨v1, z, q, e2, _⟩ := okV_pe so h2
      have os := okEs_o mo ok so h6
      cases xs with
      | nil =>
        cases os
        exact snd_plain (x_pop0 v1 h3 (hl.trans h4)) rfl
      | cons y ys =>
        cases ys with
        | nil =>
          obtain ⟨a', rfl, pa, na⟩ := os.one
          exact snd_plain (x_pop1 v1 h3 (hl.trans h4) pa na) rfl
        | cons y2 ys => simp only [List.length_cons] at h5; omega
    · cases h
  | .bad, e, S, X, W, ok, so, _ => x_bad
theorem okEs_o (mo : MuOk P) : ∀ {es' : Es} {es : List Expr} {S : Sc} {X : Cx} {W : WX}, Cok T P C L X W → ScOk S X → okEs T P S es' es = true → OpS T P C X W es' es
  | .nil, [], S, X, W, ok, so, _ => .nil
  | .nil, _ :: _, S, X, W, ok, so, h => by simp [okEs] at h
  | .cons e' es', [], S, X, W, ok, so, h => by cases e' <;> simp [okEs] at h
  | .cons e' es', x :: xs, S, X, W, ok, so, h => by
    have gen : (okE T P S e' x && notStar x && okEs T P S es' xs) = true → (∀ i, e' ≠ .bor i) → (∀ i, e' ≠ .mut i) → OpS T P C X W (.cons e' es') (x :: xs) := fun h hb hm => by
      simp only [Bool.and_eq_true] at h
      exact .cons (x_opd (okE_o mo ok so h.1.1).pe hb hm) h.1.2 (okEs_o mo ok so h.2)
    cases e' with
    | bor i =>
      rw [okEs, Bool.and_eq_true] at h
      obtain ⟨h1, y, p, rfl, _⟩ := okV_pe so h.1
      exact .cons (x_bor h1) rfl (okEs_o mo ok so h.2)
    | «mut» i =>
      rw [okEs, Bool.and_eq_true] at h
      obtain ⟨h1, y, p, rfl, _⟩ := okV_pe so h.1
      exact .cons (x_mut h1) rfl (okEs_o mo ok so h.2)
    | _ => exact gen (by simpa only [okEs] using h) (fun i z => by cases z) (fun i z => by cases z)
theorem okCs_o (mo : MuOk P) : ∀ {cs : Es} {ifs : List Expr} {S : Sc} {X : Cx} {W : WX}, Cok T P C L X W → ScOk S X → okCs T P S cs ifs = true → PTs X ifs (TT' T X.K W (evC P C cs))
  | .nil, [], S, X, W, ok, so, _ => ⟨fun pins s σ H Q I q => by
      obtain ⟨ρ, Hf, res, E, h, p⟩ := q
      rw [evC] at h
      cases h
      exact pts_nil.run pins s σ H Q I (p Hf H (.refl E))⟩
  | .nil, _ :: _, S, X, W, ok, so, h => by simp [okCs] at h
  | .cons c .nil, [], S, X, W, ok, so, h => by simp [okCs] at h
  | .cons c .nil, [x], S, X, W, ok, so, h => by
    rw [okCs] at h
    have st := (okE_o mo ok so h).pt
    have e : evC P C (.cons c .nil) = fun ρ => tst (ev P C c ρ) := by
      funext ρ
      rw [evC]
      cases tst (ev P C c ρ) with
      | none => rfl
      | some r =>
        cases r with
        | ex x => rfl
        | ok b ρ1 => cases b <;> first | rfl | (simp only [bindR]; rw [evC])
    rw [e]
    exact pts_one st
  | .cons c .nil, _ :: _ :: _, S, X, W, ok, so, h => by simp [okCs] at h
  | .cons c (.cons _ _), _, S, X, W, ok, so, h => by simp [okCs] at h
theorem okI_o (mo : MuOk P) : ∀ {it : It} {e tg : Expr} {S : Sc} {X : Cx} {W : WX}, Cok T P C L X W → ScOk S X → okI T P S it tg e = true → PI X tg e (TIt T X.K W (evI P C it)) ∧ ∀ x, foldedSetIterable e X.env x = pure x
  | .seq e', e, tg, S, X, W, ok, so, h => by
    have gen : (okE T P S e' e && notSet e) = true → (∀ i, e' ≠ .bor i) → PI X tg e (TIt T X.K W (evI P C (.seq e'))) ∧ ∀ x, foldedSetIterable e X.env x = pure x := fun h hb => by
      rw [Bool.and_eq_true] at h
      exact ⟨i_seq (okE_o mo ok so h.1).pe hb, fsi h.2⟩
    cases e' with
    | bor i =>
      rw [okI] at h
      obtain ⟨h1, x, p, rfl, _⟩ := okV_pe so h
      exact ⟨i_bor h1, fsi rfl⟩
    | _ => exact gen (by simpa only [okI] using h) fun i z => by cases z
  | .rng es, e, tg, S, X, W, ok, so, h => by
    rw [okI] at h
    split at h
    · rename_i n x xs hc
      obtain ⟨p, q, rfl⟩ := callN_eq hc
      simp only [Bool.and_eq_true, decide_eq_true_eq] at h
      obtain ⟨e1, e2, _⟩ := okG_ok so h.1.1
      subst e1
      have os := okEs_o mo ok so h.2
      exact ⟨i_rng h.1.2 e2 (ok.fac.blt _ (by decide +kernel)) os.pa.1 os.pa.2, fsi rfl⟩
    · cases h
  | .zip es, e, tg, S, X, W, ok, so, h => by
    rw [okI] at h
    split at h
    · rename_i n x y hc
      obtain ⟨p, q, rfl⟩ := callN_eq hc
      simp only [Bool.and_eq_true] at h
      obtain ⟨⟨h1, h2⟩, h3⟩ := h
      obtain ⟨a, b, c, rfl⟩ := isTup_eq h1
      obtain ⟨e1, g1, _⟩ := okG_ok so h2
      subst e1
      have os := okEs_o mo ok so h3
      obtain ⟨a', b', rfl, _, _, na, nb⟩ := os.two
      exact ⟨i_zip g1 (ok.fac.blt _ (by decide +kernel)) os.pa.1 na nb, fsi rfl⟩
    · cases h
  | .enum _, _, _, S, X, W, ok, so, h => by simp [okI] at h
end
/-- a comprehension that is given to a plain local of its line -/
theorem okE_setLc (ok : Cok T P C L X W) (mo : MuOk P) (so : ScOk S X) {mu : List Nat} {vs : List Nat} {t : Tg} {it : It} {cs : Es} {e' : E} {e : Expr} {r : LcF} {i : Nat} {x : Str} {p' pos : Pos} (hc : lcF e = some r) (h : okE T P S (.lc vs t it cs e') e = true) (hi : X.N[i]? = some x) (hl : X.env.scope.names.lookup x = some .local)
    (hsw : swapsWith e (some (.Name x p')) pos.line X.env = pure true) : PS X (.Assign [.Name x p'] e pos) (TSt T X.K W mu (exec P C (.asg (.nm i) (.lc vs t it cs e')) mu)) := by
  rw [okE, hc] at h
  obtain ⟨p, rfl⟩ := lcF_eq hc
  simp only [Bool.and_eq_true] at h
  obtain ⟨⟨⟨⟨⟨⟨h1, h2⟩, h3⟩, h4⟩, h5⟩, h6⟩, h7⟩ := h
  obtain ⟨pi, hs⟩ := okI_o mo ok so (tg := r.tg) h1
  refine ⟨fun pins s σ H D I q => ?_⟩
  refine (ps_setLc (own := ownOf S.N vs) (wi := TIt T X.K W (evI P C it)) (g := rdT X.K t) (tt := TT' T X.K W0 (evC P C cs)) (te := TX T X.K W0 (ev P C e')) ok.calm ok.nd hi hl hsw pi (blkOk_by (by rw [so.sc, so.N]; exact h5)) (fun s H C' cl fp => (okT_rd (T := T) (ok.blk s H r.scope C' cl fp).calm ok.nd (scB_ok so s H r.scope C' cl fp) h2).1)
    (fun s H C' cl fp => okCs_o mo (ok.blk s H r.scope C' cl fp) (scB_ok so s H r.scope C' cl fp) h6)
    (fun s H C' cl fp => (okE_o mo (ok.blk s H r.scope C' cl fp) (scB_ok so s H r.scope C' cl fp) h7).pe) hs).run pins s σ H D I ?_
  refine lc_conv (P := P) (C := C) (W := W) (t := t) (it := it) (cs := cs) (e' := e') (okT_tg (S := scB S.N r.scope S.sc) so.N h2) (fun j hj => by rw [ownOf_2]; exact List.contains_iff_mem.mp (List.all_eq_true.mp h3 j hj)) (fun j hj => by
          subst hj
          rw [ownOf_2]
          intro z
          have h4' : (!vs.contains j) = true := h4
          rw [List.contains_iff_mem.mpr z] at h4'
          cases h4') I.len ?_
  rw [ownOf_2]
  obtain ⟨ρ, Hf, res, E, h, p⟩ := q
  rw [exec] at h
  refine TX.bindF E h p fun v ρ1 u Hf1 H1 k st r m => ?_
  have k' : (match (if mu.contains i then none else some (ρ1.set i (some v))) with | some ρ2 => some (F.nx ρ2) | none => none) = some res := k
  cases hc : mu.contains i with
  | true => rw [hc] at k'; cases k'
  | false =>
    rw [hc] at k'
    cases k'
    exact p _ Hf1 H1 (st.store r m.toS (lenN I hi)) (KeepS.refl.store hc)
/-- a table that is given to a plain local of its line -/
theorem okE_setLt (ok : Cok T P C L X W) (mo : MuOk P) (so : ScOk S X) {mu : List Nat} {vs : List Nat} {t : Tg} {it : It} {e' : E} {e : Expr} {r : LcF} {i : Nat} {x : Str} {p' pos : Pos} (hc : lcF e = some r) (h : okE T P S (.lt vs t it e') e = true) (hi : X.N[i]? = some x) (hl : X.env.scope.names.lookup x = some .local)
    (hsw : swapsWith e (some (.Name x p')) pos.line X.env = pure true) : PS X (.Assign [.Name x p'] e pos) (TSt T X.K W mu (exec P C (.asg (.nm i) (.lt vs t it e')) mu)) := by
  rw [okE, hc] at h
  obtain ⟨p, rfl⟩ := lcF_eq hc
  simp only [Bool.and_eq_true] at h
  obtain ⟨⟨⟨⟨⟨⟨h1, h2⟩, h3⟩, h4⟩, h5⟩, h6⟩, h7⟩ := h
  obtain ⟨elt, tg, iter, ifs, scope⟩ := r
  have h6' : ifs = [] := List.isEmpty_iff.mp h6
  subst h6'
  obtain ⟨pi, hs⟩ := okI_o mo ok so (tg := tg) h1
  refine ⟨fun pins s σ H D I q => ?_⟩
  refine (ps_setLc (own := ownOf S.N vs) (wi := TIt T X.K W (evI P C it)) (g := rdT X.K t) (tt := TT' T X.K W0 (evC P C .nil)) (te := TX T X.K W0 (ev P C e')) ok.calm ok.nd hi hl hsw pi (blkOk_by (by rw [so.sc, so.N]; exact h5)) (fun s H C' cl fp => (okT_rd (T := T) (ok.blk s H scope C' cl fp).calm ok.nd (scB_ok so s H scope C' cl fp) h2).1)
    (fun s H C' cl fp => nil_pts)
    (fun s H C' cl fp => (okE_o mo (ok.blk s H scope C' cl fp) (scB_ok so s H scope C' cl fp) h7).pe) hs).run pins s σ H D I ?_
  refine lt_conv (P := P) (C := C) (W := W) (t := t) (it := it) (e' := e') (okT_tg (S := scB S.N scope S.sc) so.N h2) (fun j hj => by rw [ownOf_2]; exact List.contains_iff_mem.mp (List.all_eq_true.mp h3 j hj)) (fun j hj => by
          subst hj
          rw [ownOf_2]
          intro z
          have h4' : (!vs.contains j) = true := h4
          rw [List.contains_iff_mem.mpr z] at h4'
          cases h4') I.len ?_
  rw [ownOf_2]
  obtain ⟨ρ, Hf, res, E, h, p⟩ := q
  rw [exec] at h
  refine TX.bindF E h p fun v ρ1 u Hf1 H1 k st r m => ?_
  have k' : (match (if mu.contains i then none else some (ρ1.set i (some v))) with | some ρ2 => some (F.nx ρ2) | none => none) = some res := k
  cases hc : mu.contains i with
  | true => rw [hc] at k'; cases k'
  | false =>
    rw [hc] at k'
    cases k'
    exact p _ Hf1 H1 (st.store r m.toS (lenN I hi)) (KeepS.refl.store hc)
theorem okE_ok (ok : Cok T P C L X W) (mo : MuOk P) (so : ScOk S X) {e' : E} {e : Expr} (h : okE T P S e' e = true) : Snd T X W e (ev P C e') := okE_o mo ok so h
theorem okEs_ok (ok : Cok T P C L X W) (mo : MuOk P) (so : ScOk S X) {es' : Es} {es : List Expr} (h : okEs T P S es' es = true) : OpS T P C X W es' es := okEs_o mo ok so h
theorem okI_ok' (ok : Cok T P C L X W) (mo : MuOk P) (so : ScOk S X) {it : It} {e tg : Expr} (h : okI T P S it tg e = true) : PI X tg e (TIt T X.K W (evI P C it)) ∧ ∀ x, foldedSetIterable e X.env x = pure x := okI_o mo ok so h
end
end Ev
/-! Ev 20: statements are what the evaluator's syntax says. -/
namespace Ev
open PySem PySem.Spec L2

def notTup : Expr → Bool
  | .Tuple _ _ _ => false
  | _ => true
theorem swT {es : List Expr} {k : Nat} {p : Pos} {e : Expr} {env : Env} (h : notTup e = true) : swappedStores [.Tuple es k p] e env = pure none := by
  cases e <;> first | rfl | cases h
theorem star1 {u : Expr} (h : notStar u = true) : (match u with | .Starred .. => true | _ => false) = false := by
  cases u <;> first | rfl | cases h
/-- a, b = u, v with two plain local names -/
theorem sw_par {x y : Str} {px py pt pt2 : Pos} {kt k2 : Nat} {u v : Expr} {env : Env} (hk : env.scope.kind = .function) (hx : env.scope.names.lookup x = some .local) (hy : env.scope.names.lookup y = some .local) (hxy : x ≠ y) (hl : (py.line == px.line) = true)
    (hu : notStar u = true) (hv : notStar v = true) (hf : (foldedForSure 8 u && foldedForSure 8 v) = false) (hc : (constantsAlone 8 u && constantsAlone 8 v) = false) :
    swappedStores [.Tuple [.Name x px, .Name y py] kt pt] (.Tuple [u, v] k2 pt2) env = pure (some [x, y]) := by
  have kx : env.kindOf x = some .local := hx
  have ky : env.kindOf y = some .local := hy
  have bk : env.blockKind = .function := by unfold Env.blockKind; rw [hk]; rfl
  have dup : ([x, y] : List Str).eraseDups.length = 2 := by
    have : (y == x) = false := beq_eq_false_iff_ne.mpr fun z => hxy z.symm
    simp [List.eraseDups_cons, this]
  have af : [u, v].all (foldedForSure 8) = false := by
    show (foldedForSure 8 u && (foldedForSure 8 v && true)) = false
    rw [Bool.and_true]; exact hf
  have ac : [u, v].all (constantsAlone 8) = false := by
    show (constantsAlone 8 u && (constantsAlone 8 v && true)) = false
    rw [Bool.and_true]; exact hc
  have hl2 : (py.line = px.line) = True := by simpa using hl
  unfold swappedStores
  simp only [bk]
  rw [if_neg (by simp), if_neg]
  · simp only [List.filterMap_cons, List.filterMap_nil, kx, ky, List.head?_cons, Option.map_some, Option.getD_some]
    have e1 : (Expr.Name x px).pos.line = px.line := rfl
    simp only [e1, hl, beq_self_eq_true, Bool.and_self, if_true, dup, af, ac]
    rfl
  · rw [Bool.not_eq_true, List.any_eq_false]
    intro e he
    have he : e = u ∨ e = v := by simpa using he
    have hst : notStar e = true := by
      rcases he with rfl | rfl
      · exact hu
      · exact hv
    cases e <;> first | (cases hst; done) | simp

theorem asSub {o k : Expr} {p : Pos} {env : Env} (h : notSlice k = true) (v : Value) : assign (.Subscript o k p) env v = (do
      let ov ← holding [v] (PySem.eval o env)
      let iv ← holding [v, ov] (PySem.eval k env)
      standAt p
      holding [v, ov, iv] (setItem ov iv v)
      release [v, ov, iv] []) := by
  cases k <;> first | rfl | cases h
def passF : Stmt → Bool
  | .Pass _ => true
  | _ => false
theorem passF_eq {st : Stmt} (h : passF st = true) : ∃ p, st = .Pass p := by
  cases st <;> first | exact ⟨_, rfl⟩ | cases h
/-! ### forms of statements -/
def asg1 : Stmt → Option (Expr × Expr)
  | .Assign [t] e _ => some (t, e)
  | _ => none
theorem asg1_eq {st : Stmt} {r : Expr × Expr} (h : asg1 st = some r) : ∃ p, st = .Assign [r.1] r.2 p := by
  unfold asg1 at h
  split at h
  · cases h; exact ⟨_, rfl⟩
  · cases h
structure Par where
  x : Str
  px : Pos
  y : Str
  py : Pos
  u : Expr
  v : Expr
def parF : Stmt → Option Par
  | .Assign [.Tuple [.Name x px, .Name y py] _ _] (.Tuple [u, v] _ _) _ => some ⟨x, px, y, py, u, v⟩
  | _ => none
theorem parF_eq {st : Stmt} {r : Par} (h : parF st = some r) : ∃ k pt k2 pt2 p, st = .Assign [.Tuple [.Name r.x r.px, .Name r.y r.py] k pt] (.Tuple [r.u, r.v] k2 pt2) p := by
  unfold parF at h
  split at h
  · cases h; exact ⟨_, _, _, _, _, rfl⟩
  · cases h
def exprF : Stmt → Option Expr
  | .Expr e _ => some e
  | _ => none
theorem exprF_eq {st : Stmt} {e : Expr} (h : exprF st = some e) : ∃ p, st = .Expr e p := by
  unfold exprF at h
  split at h
  · cases h; exact ⟨_, rfl⟩
  · cases h
def augF : Stmt → Option (Str × Operator × Expr)
  | .AugAssign (.Name x _) op e _ => some (x, op, e)
  | _ => none
theorem augF_eq {st : Stmt} {r : Str × Operator × Expr} (h : augF st = some r) : ∃ p q, st = .AugAssign (.Name r.1 p) r.2.1 r.2.2 q := by
  unfold augF at h
  split at h
  · cases h; exact ⟨_, _, rfl⟩
  · cases h
def retF : Stmt → Option (Option Expr)
  | .Return e _ => some e
  | _ => none
theorem retF_eq {st : Stmt} {r : Option Expr} (h : retF st = some r) : ∃ p, st = .Return r p := by
  unfold retF at h
  split at h
  · cases h; exact ⟨_, rfl⟩
  · cases h
def ifS : Stmt → Option (Expr × List Stmt × List Stmt)
  | .If c a b _ => some (c, a, b)
  | _ => none
theorem ifS_eq {st : Stmt} {r : Expr × List Stmt × List Stmt} (h : ifS st = some r) : ∃ p, st = .If r.1 r.2.1 r.2.2 p := by
  unfold ifS at h
  split at h
  · cases h; exact ⟨_, rfl⟩
  · cases h
def forS : Stmt → Option (Expr × Expr × List Stmt)
  | .For t i b [] _ => some (t, i, b)
  | _ => none
theorem forS_eq {st : Stmt} {r : Expr × Expr × List Stmt} (h : forS st = some r) : ∃ p, st = .For r.1 r.2.1 r.2.2 [] p := by
  unfold forS at h
  split at h
  · cases h; exact ⟨_, rfl⟩
  · cases h
def whS : Stmt → Option (Expr × List Stmt)
  | .While c b [] _ => some (c, b)
  | _ => none
theorem whS_eq {st : Stmt} {r : Expr × List Stmt} (h : whS st = some r) : ∃ p, st = .While r.1 r.2 [] p := by
  unfold whS at h
  split at h
  · cases h; exact ⟨_, rfl⟩
  · cases h
def raiseF : Stmt → Option (Str × Str)
  | .Raise (some (.Call (.Name x _) [.Constant (.str m) _ _] [] _)) none _ => some (x, m)
  | _ => none
theorem raiseF_eq {st : Stmt} {r : Str × Str} (h : raiseF st = some r) : ∃ p j p2 q pos, st = .Raise (some (.Call (.Name r.1 p) [.Constant (.str r.2) j p2] [] q)) none pos := by
  unfold raiseF at h
  split at h
  · cases h; exact ⟨_, _, _, _, _, rfl⟩
  · cases h
structure TryF where
  body : List Stmt
  x : Str
  n : Option Str
  ue : Expr
def tryF : Stmt → Option TryF
  | .Try b [.ExceptHandler (some (.Name x _)) n [.Return (some u) _] _] [] [] _ => some ⟨b, x, n, u⟩
  | _ => none
theorem tryF_eq {st : Stmt} {r : TryF} (h : tryF st = some r) : ∃ np rp hp p, st = .Try r.body [.ExceptHandler (some (.Name r.x np)) r.n [.Return (some r.ue) rp] hp] [] [] p := by
  unfold tryF at h
  split at h
  · cases h; exact ⟨_, _, _, _, rfl⟩
  · cases h
def stsF : Stmt → Option (Expr × List Expr × List Expr)
  | .Assign [.Tuple (t :: tgs) _ _] (.Tuple xs _ _) _ => some (t, tgs, xs)
  | _ => none
theorem stsF_eq {st : Stmt} {r : Expr × List Expr × List Expr} (h : stsF st = some r) : ∃ k p k2 p2 pos, st = .Assign [.Tuple (r.1 :: r.2.1) k p] (.Tuple r.2.2 k2 p2) pos := by
  unfold stsF at h
  split at h
  · cases h; exact ⟨_, _, _, _, _, rfl⟩
  · cases h
/-- the slot of a name of the text -/
def nmIx (S : Sc) (n : Str) : Nat := S.N.idxOf n
def raiseA : Es → Option Str
  | .cons (.cst (.str m)) .nil => some m
  | _ => none
theorem raiseA_eq {es : Es} {m : Str} (h : raiseA es = some m) : es = .cons (.cst (.str m)) .nil := by
  unfold raiseA at h
  split at h
  · cases h; rfl
  · cases h
def hsA : Hs → Option (Nat × Su)
  | .ret c u .nil => some (c, u)
  | _ => none
theorem hsA_eq {hs : Hs} {r : Nat × Su} (h : hsA hs = some r) : hs = .ret r.1 r.2 .nil := by
  unfold hsA at h
  split at h
  · cases h; rfl
  · cases h
def okTn (S : Sc) : Option Str → Bool
  | none => true
  | some n => S.lcl n && decide (S.N[nmIx S n]? = some n)
/-- a plain store, though a comprehension's: its name is captured -/
def swOff (S : Sc) (x : Str) : Bool := isCe (S.sc.names.lookup x)
/-- a comprehension that is given to a plain local -/
def swOn (S : Sc) (x : Str) (px : Pos) (e' : E) (e : Expr) : Bool := match e', e with
  | .lc _ _ _ _ _, .ListComp _ [⟨_, _, _, 0⟩] scope pos => S.lcl x && ((px.line == pos.line) && !(scope.names.any fun (n, k) => n == x && (k == .local || k == .cell)))
  | .lt _ _ _ _, .ListComp _ [⟨_, _, _, 0⟩] scope pos => S.lcl x && ((px.line == pos.line) && !(scope.names.any fun (n, k) => n == x && (k == .local || k == .cell)))
  | _, _ => false
theorem swOff_ok {e : Expr} {x : Str} {px : Pos} {l : Nat} {env : Env} (h : isCe (env.scope.names.lookup x) = true) : swapsWith e (some (.Name x px)) l env = pure false := by
  have ce : env.kindOf x = some .cell := by
    show env.scope.names.lookup x = _
    unfold isCe at h
    split at h <;> first | (rename_i q; exact q) | cases h
  unfold swapsWith
  cases e <;> first | rfl | (simp only [ce]; rw [show (some NameKind.cell == some NameKind.local) = false from rfl]; simp only [Bool.and_false, Bool.false_and]) | (simp only [ce]; rw [show (some NameKind.cell == some NameKind.local) = false from rfl]; simp only [Bool.and_false, Bool.false_and]; rfl)
def isKill : Ev.S → Bool
  | .kill _ => true
  | .frz _ => true
  | _ => false
theorem isKill_eq {s : Ev.S} (h : isKill s = true) : ∃ vs, s = .kill vs ∨ s = .frz vs := by
  cases s <;> first | exact ⟨_, .inl rfl⟩ | exact ⟨_, .inr rfl⟩ | cases h
mutual
def okS (T : Tx) (P : Prog) (S : Sc) : Ev.S → Stmt → Bool
  | .bad, _ => true
  | .pass, st => passF st
  | .asg (.nm i) e', st => match asg1 st with
    | some (.Name x px, e) => decide (S.N[i]? = some x) && S.loc x && (notComp e || swOff S x || swOn S x px e' e) && okE T P S e' e
    | _ => false
  | .asg (.tp is) e', st => match asg1 st with
    | some (.Tuple es _ _, e) => okNs S.N S.loc is es && notComp e && notTup e && okE T P S e' e
    | _ => false
  | .par i j a b, st => match parF st with
    | some r => decide (S.N[i]? = some r.x) && decide (S.N[j]? = some r.y) && decide (i ≠ j) && decide (r.x ≠ r.y) && S.lcl r.x && S.lcl r.y && (r.py.line == r.px.line) && notStar r.u && notStar r.v &&
        !(foldedForSure 8 r.u && foldedForSure 8 r.v) && !(constantsAlone 8 r.u && constantsAlone 8 r.v) && okE T P S a r.u && okE T P S b r.v
    | none => false
  | .sub i k' e', st => match asg1 st with
    | some (.Subscript o k _, e) => okV S i o && notSlice k && notComp e && okE T P S k' k && okE T P S e' e
    | _ => false
  | .fld i f e', st => match asg1 st with
    | some (.Attribute o n _, e) => okV S i o && n == T.fn f && notComp e && okE T P S e' e
    | _ => false
  | .app i e', st => match exprF st with
    | some c => match methF c with
      | some (o, n, [x], l) => okV S i o && n == ("append" : Str) && l && notStar x && okE T P S e' x
      | _ => false
    | none => false
  | .expr e', st => match exprF st with
    | some e => notComp e && okE T P S e' e
    | none => false
  | .ext i e', st => match exprF st with
    | some c => match methF c with
      | some (o, n, [x], l) => okV S i o && n == ("extend" : Str) && l && notStar x && okE T P S e' x
      | _ => false
    | none => false
  | .aug i o e', st => match augF st with
    | some (x, op, e) => decide (S.N[i]? = some x) && S.loc x && okE T P S e' e && (match o, op with
      | .add, .Add => true
      | .sub, .Sub => true
      | _, _ => false)
    | none => false
  | .ret e', st => match retF st with
    | some (some e) => okE T P S e' e
    | _ => false
  | .retn, st => match retF st with
    | some none => true
    | _ => false
  | .ifs c a b, st => match ifS st with
    | some (z, x, y) => okE T P S c z && okSs T P S a x && okSs T P S b y
    | none => false
  | .for_ t it b, st => match forS st with
    | some (tg, e, x) => okT S t tg && okI T P S it tg e && okSs T P S b x
    | none => false
  | .while_ c b, st => match whS st with
    | some (z, x) => okE T P S c z && okSs T P S b x
    | none => false
  | .raise c es, st => match raiseF st, raiseA es with
    | some (x, m'), some m => T.xo c && okG S (T.cn c) x && m == m'
    | _, _ => false
  | .st t e', st => match asg1 st with
    | some (tg, e) => okTl S t tg && isSubs tg && notComp e && okE T P S e' e
    | none => false
  | .sts ts es, st => match stsF st with
    | some (t, tgs, xs) => okTls S ts (t :: tgs) && (t :: tgs).any (noFast S.sc) && decide (ts.length ≤ 100) && okEs T P S es xs
    | none => false
  | .try_ b hs, st => match tryF st, hsA hs with
    | some r, some (c, u) => T.xh c && okG S (T.cn c) r.x && okSs T P S b r.body && okSu T r.n S.gl u r.ue && okTn S r.n
    | _, _ => false
  | .kill _, _ => false
  | .frz _, _ => false
def okSs (T : Tx) (P : Prog) (S : Sc) : Ss → List Stmt → Bool
  | .nil, sts => sts.isEmpty
  | .cons s ss, sts => if isKill s then okSs T P S ss sts else match sts with
    | st :: sts => okS T P S s st && okSs T P S ss sts
    | [] => false
end

structure Sok (S : Sc) (T : Tx) (P : Prog) (C : Orc) (L : Nat) (X : Cx) (W : WX) : Prop extends Cok T P C L X W where
  so : ScOk S X
  stk : X.stack = X.env :: X.outer
  frm : X.env.frame = some X.env.locals
  own : PassesOwn (model X.prog X.w) X.A X.env X.xe
  knd : X.env.scope.kind = .function
section
variable {S : Sc} {X : Cx} {T : Tx} {P : Prog} {C : Orc} {L : Nat} {W : WX}
theorem Sok.tr (ok : Sok S T P C L X W) {W' : WX} {pn : List (Addr × Obj)} {xe : Value → Shared → Prop} (tk : Takes (X.tr pn xe) W') (po : PassesOwn (model X.prog X.w) X.A X.env xe) : Sok S T P C L (X.tr pn xe) W' :=
  ⟨⟨⟨ok.fac, ok.fns, ok.fill, tk⟩, ok.calm, ok.nd, ok.room⟩, ⟨ok.so.N, ok.so.vis, ok.so.gl, ok.so.loc, ok.so.lcl, ok.so.sc⟩, ok.stk, ok.frm, po, ok.knd⟩
theorem ER.wipeD {G : Gm} {σ : St} {ρ : EnvD} {Hf H : Hp} (E : ER G σ ρ Hf H) (vs : List Nat) : ER G σ (Ev.wipeD ρ vs) Hf H where
  sub := E.sub
  slot := fun i e h => E.slot i e (wipeD_in h).1
  apart := fun i j e e' v w a h1 h2 => E.apart i j e e' v w a (wipeD_in h1).1 (wipeD_in h2).1
theorem Stp.wiped {G : Gm} {σ : St} {ρ : EnvD} {Hf H : Hp} (E : ER G σ ρ Hf H) (vs : List Nat) : Stp G σ ρ Hf H σ (Ev.wipeD ρ vs) Hf H where
  er := E.wipeD vs
  ext := Same.refl _
  frame := fun _ _ h _ => h
  acc := fun a h => by
    rcases h with ⟨i, e, v, h1, h2, h3⟩ | h
    · exact .inl ⟨i, e, v, (wipeD_in h1).1, h2, h3⟩
    · exact .inr (.inl h)
theorem ss_kill {sts : List Stmt} {ss : Ss} {vs : List Nat} {mu : List Nat} (h : PSs X sts (TSt T X.K W mu (execs P C ss mu))) : PSs X sts (TSt T X.K W mu (execs P C (.cons (.kill vs) ss) mu)) := h.weak fun D σ H q => by
  obtain ⟨ρ, Hf, res, E, h, p⟩ := q
  rw [execs] at h
  have e : exec P C (.kill vs) mu ρ = some (.nx (Ev.wipeD ρ vs)) := by rw [exec]
  rw [e] at h
  exact ⟨_, Hf, res, E.wipeD vs, h, p.step (Stp.wiped E vs) .refl⟩
theorem Stp.frz1 {G : Gm} {σ : St} {ρ : EnvD} {Hf H : Hp} (E : ER G σ ρ Hf H) (i : Nat) : ∃ Hf', Stp G σ ρ Hf H σ (frzV ρ i (get ρ i)) Hf' H := by
  cases g : get ρ i with
  | none => exact ⟨Hf, .refl E⟩
  | some x =>
    cases x with
    | fr d => exact ⟨Hf, .refl E⟩
    | oi c ns xs => exact ⟨Hf, .refl E⟩
    | ow xs => obtain ⟨v, _, st, _⟩ := Stp.share E (get_some g); exact ⟨_, st⟩
    | tb xss => obtain ⟨v, _, st, _⟩ := Stp.share E (get_some g); exact ⟨_, st⟩
theorem Stp.frzs {G : Gm} {σ : St} {ρ : EnvD} {Hf H : Hp} (E : ER G σ ρ Hf H) : ∀ vs : List Nat, ∃ Hf', Stp G σ ρ Hf H σ (frzD ρ vs) Hf' H
  | [] => ⟨Hf, .refl E⟩
  | v :: vs => by
    obtain ⟨Hf1, s1⟩ := Stp.frzs E vs
    obtain ⟨Hf2, s2⟩ := Stp.frz1 s1.er v
    exact ⟨Hf2, s1.trans s2⟩
theorem ss_frz {sts : List Stmt} {ss : Ss} {vs : List Nat} {mu : List Nat} (h : PSs X sts (TSt T X.K W mu (execs P C ss mu))) : PSs X sts (TSt T X.K W mu (execs P C (.cons (.frz vs) ss) mu)) := h.weak fun D σ H q => by
  obtain ⟨ρ, Hf, res, E, h, p⟩ := q
  rw [execs] at h
  have e : exec P C (.frz vs) mu ρ = some (.nx (frzD ρ vs)) := by rw [exec]
  rw [e] at h
  obtain ⟨Hf', st⟩ := Stp.frzs E vs
  exact ⟨_, Hf', res, st.er, h, p.step st .refl⟩
mutual
theorem okS_ok (mo : MuOk P) : ∀ {s' : Ev.S} {st : Stmt} {X : Cx} {W : WX} {mu : List Nat}, Sok S T P C L X W → okS T P S s' st = true → PS X st (TSt T X.K W mu (exec P C s' mu))
  | .bad, st, X, W, mu, ok, _ => s_bad (r := fun _ _ => none)
  | .pass, st, X, W, mu, ok, h => by
    rw [okS] at h
    obtain ⟨p, rfl⟩ := passF_eq h
    exact s_pass
  | .asg (.nm i) e', st, X, W, mu, ok, h => by
    rw [okS] at h
    split at h
    · rename_i x p' e ha
      obtain ⟨p, rfl⟩ := asg1_eq ha
      simp only [Bool.and_eq_true, decide_eq_true_eq] at h
      obtain ⟨⟨⟨h1, h2⟩, h3⟩, h4⟩ := h
      rw [← ok.so.N] at h1
      obtain ⟨l1, l2⟩ := ok.so.loc x h2
      rw [Bool.or_eq_true, Bool.or_eq_true] at h3
      rcases h3 with (h3 | h3) | h3
      · exact s_asgN ok.nd h1 l1 l2 (okE_ok ok.toCok mo ok.so h4).pe (swW h3)
      · exact s_asgN ok.nd h1 l1 l2 (okE_ok ok.toCok mo ok.so h4).pe (swOff_ok (by rw [ok.so.sc]; exact h3))
      · unfold swOn at h3
        split at h3
        · rename_i vs t it cs e0 elt tg iter ifs scope cp
          simp only [Bool.and_eq_true, Bool.not_eq_true'] at h3
          have hl := ok.so.lcl x h3.1
          exact okE_setLc ok.toCok mo ok.so (r := ⟨elt, tg, iter, ifs, scope⟩) rfl h4 h1 hl (sw_true ok.knd hl h3.2.1 h3.2.2)
        · rename_i vs t it e0 elt tg iter ifs scope cp
          simp only [Bool.and_eq_true, Bool.not_eq_true'] at h3
          have hl := ok.so.lcl x h3.1
          exact okE_setLt ok.toCok mo ok.so (r := ⟨elt, tg, iter, ifs, scope⟩) rfl h4 h1 hl (sw_true ok.knd hl h3.2.1 h3.2.2)
        · cases h3
    · cases h
  | .asg (.tp is) e', st, X, W, mu, ok, h => by
    rw [okS] at h
    split at h
    · rename_i es k p' e ha
      obtain ⟨p, rfl⟩ := asg1_eq ha
      simp only [Bool.and_eq_true] at h
      obtain ⟨⟨⟨h1, h2⟩, h3⟩, h4⟩ := h
      rw [← ok.so.N] at h1
      exact s_asgT ok.nd ok.calm ok.so.loc h1 (okE_ok ok.toCok mo ok.so h4).pe h2 (swT h3)
    · cases h
  | .par i j a b, st, X, W, mu, ok, h => by
    rw [okS] at h
    split at h
    · rename_i r hp
      obtain ⟨k, pt, k2, pt2, p, rfl⟩ := parF_eq hp
      simp only [Bool.and_eq_true, decide_eq_true_eq, Bool.not_eq_true'] at h
      obtain ⟨⟨⟨⟨⟨⟨⟨⟨⟨⟨⟨⟨h1, h2⟩, h3⟩, h4⟩, h5⟩, h6⟩, h7⟩, h8⟩, h9⟩, h10⟩, h11⟩, h12⟩, h13⟩ := h
      rw [← ok.so.N] at h1 h2
      exact s_par ok.calm ok.nd h1 h2 h3 (ok.so.lcl _ h5) (ok.so.lcl _ h6) (okE_ok ok.toCok mo ok.so h12).pe (okE_ok ok.toCok mo ok.so h13).pe h8 h9 (sw_par ok.knd (ok.so.lcl _ h5) (ok.so.lcl _ h6) h4 h7 h8 h9 h10 h11)
    · cases h
  | .sub i k' e', st, X, W, mu, ok, h => by
    rw [okS] at h
    split at h
    · rename_i o k p' e ha
      obtain ⟨p, rfl⟩ := asg1_eq ha
      simp only [Bool.and_eq_true] at h
      obtain ⟨⟨⟨⟨h1, h2⟩, h3⟩, h4⟩, h5⟩ := h
      obtain ⟨v1, x, p2, rfl, _⟩ := okV_pe ok.so h1
      exact s_sub v1 (okE_ok ok.toCok mo ok.so h5).pe (okE_ok ok.toCok mo ok.so h4).pe h3 (asSub h2)
    · cases h
  | .fld i f e', st, X, W, mu, ok, h => by
    rw [okS] at h
    split at h
    · rename_i o n p' e ha
      obtain ⟨p, rfl⟩ := asg1_eq ha
      simp only [Bool.and_eq_true] at h
      obtain ⟨⟨⟨h1, h2⟩, h3⟩, h4⟩ := h
      obtain ⟨v1, x, p2, rfl, _⟩ := okV_pe ok.so h1
      rw [eq_of_beq h2]
      exact s_fld ok.toCok v1 (okE_ok ok.toCok mo ok.so h4).pe h3
    · cases h
  | .app i e', st, X, W, mu, ok, h => by
    rw [okS] at h
    split at h
    · rename_i c hc
      obtain ⟨p, rfl⟩ := exprF_eq hc
      split at h
      · rename_i o n x l hm
        obtain ⟨ap, q, rfl, hl⟩ := methF_eq hm
        simp only [Bool.and_eq_true] at h
        obtain ⟨⟨⟨⟨h1, h2⟩, h3⟩, h4⟩, h5⟩ := h
        obtain ⟨v1, y, p2, e1, _⟩ := okV_pe ok.so h1
        dsimp only at e1 hl
        subst e1
        rw [eq_of_beq h2]
        exact s_app v1 (okE_ok ok.toCok mo ok.so h5).pe h4 (hl.trans h3)
      · cases h
    · cases h
  | .ext i e', st, X, W, mu, ok, h => by
    rw [okS] at h
    split at h
    · rename_i c hc
      obtain ⟨p, rfl⟩ := exprF_eq hc
      split at h
      · rename_i o n x l hm
        obtain ⟨ap, q, rfl, hl⟩ := methF_eq hm
        simp only [Bool.and_eq_true] at h
        obtain ⟨⟨⟨⟨h1, h2⟩, h3⟩, h4⟩, h5⟩ := h
        obtain ⟨v1, y, p2, e1, _⟩ := okV_pe ok.so h1
        dsimp only at e1 hl
        subst e1
        rw [eq_of_beq h2]
        exact s_ext v1 (okE_ok ok.toCok mo ok.so h5).pe h4 (hl.trans h3)
      · cases h
    · cases h
  | .expr e', st, X, W, mu, ok, h => by
    rw [okS] at h
    split at h
    · rename_i e hc
      obtain ⟨p, rfl⟩ := exprF_eq hc
      rw [Bool.and_eq_true] at h
      exact s_expr (okE_ok ok.toCok mo ok.so h.2).pe (swW h.1)
    · cases h
  | .aug i o e', st, X, W, mu, ok, h => by
    rw [okS] at h
    split at h
    · rename_i x op e hc
      obtain ⟨p, q, rfl⟩ := augF_eq hc
      simp only [Bool.and_eq_true, decide_eq_true_eq] at h
      obtain ⟨⟨⟨h1, h2⟩, h3⟩, h4⟩ := h
      rw [← ok.so.N] at h1
      obtain ⟨l1, l2⟩ := ok.so.loc x h2
      have ho : (o = .add ∧ op = .Add) ∨ (o = .sub ∧ op = .Sub) := by
        split at h4
        · exact .inl ⟨rfl, rfl⟩
        · exact .inr ⟨rfl, rfl⟩
        · cases h4
      exact s_aug ho ok.nd h1 l1 l2 (okE_ok ok.toCok mo ok.so h3).pe
    · cases h
  | .ret e', st, X, W, mu, ok, h => by
    rw [okS] at h
    split at h
    · rename_i e hc
      obtain ⟨p, rfl⟩ := retF_eq hc
      exact s_ret (okE_ok ok.toCok mo ok.so h).pe
    · cases h
  | .retn, st, X, W, mu, ok, h => by
    rw [okS] at h
    split at h
    · rename_i hc
      obtain ⟨p, rfl⟩ := retF_eq hc
      exact s_retn
    · cases h
  | .ifs c a b, st, X, W, mu, ok, h => by
    rw [okS] at h
    split at h
    · rename_i z x y hc
      obtain ⟨p, rfl⟩ := ifS_eq hc
      simp only [Bool.and_eq_true] at h
      exact s_ifs (okE_ok ok.toCok mo ok.so h.1.1).pt (okSs_ok mo ok h.1.2) (okSs_ok mo ok h.2)
    · cases h
  | .for_ t it b, st, X, W, mu, ok, h => by
    rw [okS] at h
    split at h
    · rename_i tg e x hc
      obtain ⟨p, rfl⟩ := forS_eq hc
      simp only [Bool.and_eq_true] at h
      obtain ⟨g, pg, tg⟩ := okT_ok (T := T) ok.calm ok.nd ok.so h.1.1
      obtain ⟨pi, fs⟩ := okI_ok' ok.toCok mo ok.so h.1.2
      exact s_for ok.own ok.calm pi pg tg (fun mu' => okSs_ok mo ok h.2) fs
    · cases h
  | .while_ c b, st, X, W, mu, ok, h => by
    rw [okS] at h
    split at h
    · rename_i z x hc
      obtain ⟨p, rfl⟩ := whS_eq hc
      rw [Bool.and_eq_true] at h
      exact s_while ok.own (okE_ok ok.toCok mo ok.so h.1).pt (okSs_ok mo ok h.2)
    · cases h
  | .raise c es, st, X, W, mu, ok, h => by
    rw [okS] at h
    split at h
    · rename_i x m' m h1 h2
      obtain ⟨p, j, p2, q, pos, rfl⟩ := raiseF_eq h1
      cases raiseA_eq h2
      simp only [Bool.and_eq_true] at h
      obtain ⟨e1, e2, e3⟩ := okG_ok ok.so h.1.2
      cases eq_of_beq h.2
      exact s_raise ok.toCok e1 h.1.1 e2 e3
    · cases h
  | .st t e', st, X, W, mu, ok, h => by
    rw [okS] at h
    split at h
    · rename_i tg e ha
      obtain ⟨p, rfl⟩ := asg1_eq ha
      simp only [Bool.and_eq_true] at h
      obtain ⟨⟨⟨h1, h2⟩, h3⟩, h4⟩ := h
      exact s_st ok.nd ok.so h1 h2 (okE_ok ok.toCok mo ok.so h4).pe h3
    · cases h
  | .sts ts es, st, X, W, mu, ok, h => by
    rw [okS] at h
    split at h
    · rename_i t tgs xs ha
      obtain ⟨k, p, k2, p2, pos, rfl⟩ := stsF_eq ha
      simp only [Bool.and_eq_true, decide_eq_true_eq] at h
      obtain ⟨⟨⟨h1, h2⟩, h3⟩, h4⟩ := h
      exact s_sts ok.nd ok.calm ok.so h1 h2 h3 (okEs_ok ok.toCok mo ok.so h4).pa.1
    · cases h
  | .try_ b hs, st, X, W, mu, ok, h => by
    rw [okS] at h
    split at h
    · rename_i r c u h1 h2
      obtain ⟨np, rp, hp, p, rfl⟩ := tryF_eq h1
      cases hsA_eq h2
      simp only [Bool.and_eq_true] at h
      obtain ⟨⟨⟨⟨g1, g2⟩, g3⟩, g4⟩, g5⟩ := h
      obtain ⟨e1, e2, e3⟩ := okG_ok ok.so g2
      obtain ⟨body, x, n, ue⟩ := r
      cases n with
      | none => exact s_try_only ok.toCok ok.stk ok.frm ok.so.gl e1 g1 e2 e3 (fun W' pn xe tk po => okSs_ok mo (ok.tr tk po) g3) g4
      | some n =>
        have g5' : (S.lcl n && decide (S.N[nmIx S n]? = some n)) = true := g5
        rw [Bool.and_eq_true, decide_eq_true_eq, ← ok.so.N] at g5'
        exact s_try_as ok.toCok ok.stk ok.frm g5'.2 (ok.so.lcl _ g5'.1) ok.so.gl e1 g1 e2 e3 (fun W' pn xe tk po => okSs_ok mo (ok.tr tk po) g3) g4
    · cases h
  | .kill vs, st, X, W, mu, ok, h => by
    rw [okS] at h; cases h
  | .frz vs, st, X, W, mu, ok, h => by
    rw [okS] at h; cases h
theorem okSs_ok (mo : MuOk P) : ∀ {ss' : Ss} {sts : List Stmt} {X : Cx} {W : WX} {mu : List Nat}, Sok S T P C L X W → okSs T P S ss' sts = true → PSs X sts (TSt T X.K W mu (execs P C ss' mu))
  | .nil, sts, X, W, mu, ok, h => by
    cases sts with
    | nil => exact ss_nil
    | cons _ _ => simp [okSs] at h
  | .cons s ss, sts, X, W, mu, ok, h => by
    unfold okSs at h
    by_cases k : isKill s = true
    · rw [if_pos k] at h
      obtain ⟨vs, rfl | rfl⟩ := isKill_eq k
      · exact ss_kill (okSs_ok mo ok h)
      · exact ss_frz (okSs_ok mo ok h)
    · rw [if_neg k] at h
      cases sts with
      | nil => cases h
      | cons st sts =>
        dsimp only at h
        rw [Bool.and_eq_true] at h
        exact ss_cons (okS_ok mo ok h.1) (okSs_ok mo ok h.2)
end
end
end Ev
/-! Ev 21: a def does what the evaluator says. -/
namespace Ev
open PySem PySem.Spec L2

/-- the names of a def's scope -/
def scOf (N : List Str) (sc : Scope) : Sc where
  N := N
  vis := fun x => match sc.names.lookup x with
    | some .local => true | some .cell => true | some .free => true
    | _ => false
  gl := fun x => match sc.names.lookup x with
    | some .globalImplicit => true
    | _ => false
  loc := fun x => match sc.names.lookup x with
    | some .local => true | some .cell => true
    | _ => false
  lcl := fun x => match sc.names.lookup x with
    | some .local => true
    | _ => false
  sc := sc
/-- a def as it stands in the text -/
structure FnTxt (T : Tx) (P : Prog) (K : PySem.W.Frag) (f : Nat) (F : Fn) : Prop where
  ex : ∃ (name qual : Str) (params : Arguments) (body : List Stmt) (scope : Scope) (dV kV doc pm cdv ct oc : Value) (an od : Option Addr) (osl : Array (Option Value)) (N : List Str),
    T.fd f = PySem.W.fnOf name qual params body scope dV kV doc pm an cdv ct ∧ K.lookup (T.fa f) = some ⟨oc, od, .func (T.fd f), osl⟩ ∧ PySem.W.codeIn K cdv qual = true ∧ FnScope N (T.ps f) scope ∧ N.length = F.ns ∧ okSs T P (scOf N scope) F.body body = true
theorem scOk {N : List Str} {scope : Scope} {X : Cx} (hN : X.N = N) (hs : X.env.scope = scope) (hf : ∀ x, X.fn x = true) : ScOk (scOf N scope) X where
  N := hN
  vis := fun x h => by
    have h' : (match scope.names.lookup x with | some .local => true | some .cell => true | some .free => true | _ => false) = true := h
    unfold Vis
    rw [hs]
    split at h' <;> first | (rename_i e; rw [e]; simp) | cases h'
  gl := fun x h => by
    have h' : (match scope.names.lookup x with | some .globalImplicit => true | _ => false) = true := h
    show X.env.scope.names.lookup x = _
    rw [hs]
    split at h' <;> first | (rename_i e; exact e) | cases h'
  loc := fun x h => by
    have h' : (match scope.names.lookup x with | some .local => true | some .cell => true | _ => false) = true := h
    refine ⟨?_, .inl (hf x)⟩
    unfold L2.Loc
    rw [hs]
    split at h' <;> first | (rename_i e; rw [e]; simp) | cases h'
  lcl := fun x h => by
    have h' : (match scope.names.lookup x with | some .local => true | _ => false) = true := h
    rw [hs]
    split at h' <;> first | (rename_i e; exact e) | cases h'
  sc := hs

section
variable {T : Tx} {P : Prog} {K : PySem.W.Frag} {mg : Str → Option Value}
theorem handed_1 {mu : List Nat} {j : Nat} {e : EV} {es : List EV} : handed mu j (e :: es) = (((e.own == mu.contains j) && !e.isT) && handed mu (j + 1) es) := rfl
theorem handed_app {mu : List Nat} {n : Nat} : ∀ {as : List EV} {j : Nat} {ds : List D}, handed mu j as = true → (∀ i, j + as.length ≤ i → i < n → mu.contains i = false) → j + as.length + ds.length ≤ n → handed mu j (as ++ ds.map EV.fr) = true
  | [], j, [], _, _, _ => rfl
  | [], j, d :: ds, h, hm, hl => by
    show (((EV.fr d).own == mu.contains j && !(EV.fr d).isT) && handed mu (j + 1) (ds.map EV.fr)) = true
    have h1 : mu.contains j = false := hm j (by simp) (by simp at hl; omega)
    rw [h1]
    have := handed_app (as := []) (j := j + 1) (ds := ds) (mu := mu) (n := n) rfl (fun i hi => hm i (by simp at hi ⊢; omega)) (by simp at hl ⊢; omega)
    exact this
  | a :: as, j, ds, h, hm, hl => by
    have h' : (((a.own == mu.contains j) && !a.isT) && handed mu (j + 1) as) = true := h
    rw [Bool.and_eq_true] at h'
    show (((a.own == mu.contains j) && !a.isT) && handed mu (j + 1) (as ++ ds.map EV.fr)) = true
    rw [h'.1]
    exact handed_app (as := as) h'.2 (fun i hi => hm i (by simp at hi ⊢; omega)) (by simp at hl ⊢; omega)
/-- missing arguments are filled up -/
theorem run_fill (mo : MuOk P) (k : Nat) : ∀ f as r, run P k f as = some r → ∃ F, P.fn f = some F ∧ as.length ≤ F.np ∧ F.np ≤ as.length + F.dfl.length ∧ run P k f (as ++ (F.dfl.drop (as.length + F.dfl.length - F.np)).map EV.fr) = some r := fun f as r h => by
  cases k with
  | zero => cases h
  | succ k =>
    unfold run at h ⊢
    cases hF : P.fn f with
    | none => rw [hF] at h; cases h
    | some F =>
      rw [hF] at h
      dsimp only at h ⊢
      split at h
      · rename_i hc
        obtain ⟨c1, c2, c3, c4⟩ := hc
        refine ⟨F, rfl, c1, c2, ?_⟩
        have hl : (as ++ (F.dfl.drop (as.length + F.dfl.length - F.np)).map EV.fr).length = F.np := by
          rw [List.length_append, List.length_map, List.length_drop]; omega
        have hh : handed F.mu 0 (as ++ (F.dfl.drop (as.length + F.dfl.length - F.np)).map EV.fr) = true := by
          refine handed_app (n := F.np) c3 (fun i hi hi2 => ?_) (by rw [List.length_drop]; omega)
          cases q : F.mu.contains i with
          | false => rfl
          | true =>
            have := mo.lt f F hF i (by simpa using q)
            omega
        rw [if_pos ⟨by rw [hl]; exact Nat.le_refl _, by rw [hl]; omega, hh, c4⟩]
        have e1 : (as ++ (F.dfl.drop (as.length + F.dfl.length - F.np)).map EV.fr) ++ (F.dfl.drop ((as ++ (F.dfl.drop (as.length + F.dfl.length - F.np)).map EV.fr).length + F.dfl.length - F.np)).map EV.fr = as ++ (F.dfl.drop (as.length + F.dfl.length - F.np)).map EV.fr := by
          rw [hl, show F.np + F.dfl.length - F.np = F.dfl.length by omega, List.drop_length]
          simp
        rw [e1]
        exact h
      · cases h
variable {G : Gm} {Hf H : Hp} {vs : List V} {as : List EV} {n m : Nat}
theorem pad_get {α : Type} {l : List α} {n : Nat} {i : Nat} {x : α} (h : ((l.map some) ++ List.replicate n none)[i]? = some (some x)) : (l.map some)[i]? = some (some x) := by
  rcases Nat.lt_or_ge i (l.map some).length with z | z
  · rw [List.getElem?_append_left z] at h; exact h
  · rw [List.getElem?_append_right z, List.getElem?_replicate] at h
    split at h <;> cases h
theorem pad_of {α : Type} {l : List α} {n : Nat} {i : Nat} {x : α} (h : (l.map some)[i]? = some (some x)) : ((l.map some) ++ List.replicate n none)[i]? = some (some x) := by
  rw [List.getElem?_append_left (lt_of_get h)]; exact h
theorem ER.pad (E : ER G (vs.map some) (as.map some) Hf H) : ER G (vs.map some ++ List.replicate n none) (as.map some ++ List.replicate m none) Hf H := by
  refine ⟨E.sub, fun i e h => ?_, fun i j e e' v w a h1 h2 h5 h6 h3 h4 => E.apart i j e e' v w a (pad_get h1) (pad_get h2) (pad_get h5) (pad_get h6) h3 h4⟩
  obtain ⟨v, h1, h2⟩ := E.slot i e (pad_get h)
  exact ⟨v, pad_of h1, h2⟩
theorem Own.pad {a : Addr} : Own (vs.map some ++ List.replicate n none) (as.map some ++ List.replicate m none) H a ↔ Own (vs.map some) (as.map some) H a :=
  ⟨fun ⟨i, e, v, h1, h3, h2⟩ => ⟨i, e, v, pad_get h1, pad_get h3, h2⟩, fun ⟨i, e, v, h1, h3, h2⟩ => ⟨i, e, v, pad_of h1, pad_of h3, h2⟩⟩
theorem Stp.back {σ' : St} {ρ' : EnvD} {Hf' H' : Hp} (s : Stp G (vs.map some ++ List.replicate n none) (as.map some ++ List.replicate m none) Hf H σ' ρ' Hf' H') : Back G vs as Hf H Hf' H' :=
  ⟨s.er.sub, s.ext, fun a o h q => s.frame a o h fun z => q (Own.pad.mp z), fun a h => (s.acc a (.inr h)).elim (fun z => .inl (Own.pad.mp z)) .inr⟩
theorem fins_get {ρ : EnvD} : ∀ {mu : List Nat} {es : List EV}, fins ρ mu = some es → ∀ i ∈ mu, ∃ e, ρ[i]? = some (some e) ∧ e.flat = true
  | [], _, _, i, hi => by cases hi
  | j :: js, es, h, i, hi => by
    unfold fins at h
    cases g : get ρ j with
    | none => rw [g] at h; cases h
    | some e =>
      rw [g] at h
      dsimp only at h
      split at h
      · rename_i ho
        cases hf : fins ρ js with
        | none => rw [hf] at h; cases h
        | some es2 =>
          rcases List.mem_cons.mp hi with e1 | hi
          · exact ⟨e, by rw [e1]; exact get_some g, ho⟩
          · exact fins_get hf i hi
      · cases h
theorem fins_ok {σ' : St} {ρ' : EnvD} {Hf' H' : Hp} (E : ER G σ' ρ' Hf' H') : ∀ {mu : List Nat} {es : List EV}, fins ρ' mu = some es → (∀ i ∈ mu, ∀ v, σ'[i]? = some (some v) → vs[i]? = some v) → Fins G Hf' H' vs mu es
  | [], _, h, _ => by cases h; exact .nil
  | j :: js, es, h, hk => by
    unfold fins at h
    cases g : get ρ' j with
    | none => rw [g] at h; cases h
    | some e =>
      rw [g] at h
      dsimp only at h
      split at h
      · cases hf : fins ρ' js with
        | none => rw [hf] at h; cases h
        | some es2 =>
          rw [hf] at h
          cases h
          obtain ⟨v, h1, h2⟩ := E.slot j e (get_some g)
          exact .cons (hk j List.mem_cons_self v h1) h2 (fins_ok E hf fun i hi => hk i (List.mem_cons_of_mem _ hi))
      · cases h
def Lv (k : Nat) : Nat := 8 * k
theorem fnOk (fac : Fac T P K mg) (mo : MuOk P) (txt : ∀ f F, P.fn f = some F → FnTxt T P K f F) {prog : Program} {w : World} {base : Heap} : ∀ (k f : Nat) (F : Fn), P.fn f = some F →
    FnOk prog w K mg base (L2.CX prog w) (Lv k) (T.fa f) (T.fd f) (T.ps f) (spD T (run P k) K F.np F.mu f)
  | 0, f, F, hF => by
    refine ⟨fun vs H Q E h => ?_, fun A outer s H args us vs Q E _ _ _ _ h => ?_⟩
    · obtain ⟨_, as, Hf, r, _, _, h, _⟩ := h
      cases h
    · obtain ⟨_, as, Hf, r, _, _, h, _⟩ := h
      cases h
  | k + 1, f, F, hF => by
    obtain ⟨name, qual, params, body, scope, dV, kV, doc, pm, cdv, ct, oc, an, od, osl, N, hfd, hlk, hcd, S, hns, hok⟩ := (txt f F hF).ex
    have hps := (fac.bind f F hF).1
    rw [hfd] at hlk ⊢
    refine fn_of (k := 8 * k + 7) hlk hcd S (fun vs H Q E h => by rw [hps]; exact h.1) fun A outer s H vs Q E hr hsp => ?_
    have ihf : ∀ f F, P.fn f = some F → FnOk prog w K mg base (L2.CX prog w) (Lv k) (T.fa f) (T.fd f) (T.ps f) (spD T (run P k) K F.np F.mu f) := fun f F h => fnOk fac mo txt k f F h
    have tk : Takes (cxOf (L2.CX prog w) prog w K mg base N qual scope (T.fa f) cdv A outer s H E) (fun cls d _ H' => E cls d H') := takes_of rfl rfl rfl rfl
    have sok : Sok (scOf N scope) T P (run P k) (Lv k) (cxOf (L2.CX prog w) prog w K mg base N qual scope (T.fa f) cdv A outer s H E) (fun cls d _ H' => E cls d H') :=
      ⟨⟨⟨fac, ihf, run_fill mo k, tk⟩, rfl, S.nd, hr⟩, scOk rfl rfl fun _ => rfl, rfl, rfl, passes_of rfl, S.kind⟩
    refine ⟨_, okSs_ok (mu := F.mu) mo sok hok, ?_⟩
    obtain ⟨hl, as, Hf, r, hla, E0, hrun, post⟩ := hsp
    unfold run at hrun
    rw [hF] at hrun
    dsimp only at hrun
    have hpn : F.np ≤ F.ns := by
      split at hrun
      · rename_i hc; exact hc.2.2.2
      · cases hrun
    split at hrun
    · rename_i hc
      obtain ⟨c1, c2, c3, c4⟩ := hc
      have e1 : as ++ (F.dfl.drop (as.length + F.dfl.length - F.np)).map EV.fr = as := by
        rw [hla, show F.np + F.dfl.length - F.np = F.dfl.length by omega, List.drop_length]
        simp
      rw [e1] at hrun
      cases hx : execs P (run P k) F.body F.mu (as.map some ++ List.replicate (F.ns - F.np) none) with
      | none => rw [hx] at hrun; cases hrun
      | some res =>
        rw [hx] at hrun
        have ep : ER (T.gm K) (start N vs) (as.map some ++ List.replicate (F.ns - F.np) none) Hf H := E0.pad
        refine ⟨_, Hf, res, ep, hx, ?_⟩
        have vget : ∀ {σ' : St}, KeepS F.mu (start N vs) σ' → ∀ i ∈ F.mu, ∀ v, σ'[i]? = some (some v) → vs[i]? = some v := fun {σ'} ks i hi v h => by
          have := ks.at_ i hi
          rw [h] at this
          have h3 : (vs.map some)[i]? = some (some v) := pad_get (n := N.length - vs.length) this.symm
          rw [List.getElem?_map] at h3
          cases q : vs[i]? with
          | none => rw [q] at h3; cases h3
          | some u => rw [q] at h3; cases h3; rfl
        have vset : ∀ {σ' : St} {a : Addr}, KeepS F.mu (start N vs) σ' → ∀ i ∈ F.mu, vs[i]? = some (.ref a) → σ'[i]? = some (some (.ref a)) := fun {σ' a} ks i hi h => by
          rw [ks.at_ i hi]
          exact pad_of (by rw [List.getElem?_map, h]; rfl)
        cases res with
        | ex x =>
          cases hrun
          exact fun σ' cls d Hf' H' st ks xr => post cls d Hf' H' st.back xr
        | nx ρ' =>
          have hr2 : ((fins ρ' F.mu).map fun es => CR.ret (.fr .non) es) = some r := hrun
          cases hfi : fins ρ' F.mu with
          | none => rw [hfi] at hr2; cases hr2
          | some es =>
            rw [hfi] at hr2
            cases hr2
            exact fun σ' Hf' H' st ks => post .non Hf' H' st.back (fins_ok st.er hfi (vget ks)) Rep.non fun a z => z.fr.elim
        | rt e ρ' =>
          have hr2 : ((fins ρ' F.mu).map fun es => CR.ret e es) = some r := hrun
          cases hfi : fins ρ' F.mu with
          | none => rw [hfi] at hr2; cases hr2
          | some es =>
            rw [hfi] at hr2
            cases hr2
            refine fun v σ' Hf' H' st ks sr mi => post v Hf' H' st.back (fins_ok st.er hfi (vget ks)) sr fun a h1 => ⟨?_, fun i hi z => ?_⟩
            · exact (mi a h1).1.elim (fun z => .inl (Own.pad.mp z)) .inr
            · obtain ⟨e2, k1, k2⟩ := fins_get hfi i hi
              exact (mi a h1).2 ⟨i, e2, _, k1, vset ks i hi z, (Has.flat k2).mpr rfl⟩
    · cases hrun
end
end Ev
/-! Ev 22: a text's tables; what the head tells of them. -/
namespace Ev
open PySem PySem.Spec L2

/-- a def: where it stands, its qualified name, its row, its names, what it does -/
structure FnE where
  id : Nat
  at_ : Str × Option Str
  qual : Str
  st : Stmt
  N : List Str
  F : Fn
structure ClE where
  name : Str
  flds : List Nat
  meths : List (Nat × Nat)
  subs : List Nat
  exc : Bool
  xo : Bool
  xh : Bool
  xf : Option Nat
structure Tab where
  fns : List FnE
  cls : List ClE
  fnm : List Str
  mnm : List Str
  globs : List (Str × D)
  gcd : Bool
def Tab.fnAt (t : Tab) (f : Nat) : Option FnE := t.fns.find? fun e => Nat.beq e.id f
def FnE.name (e : FnE) : Str := e.at_.2.getD e.at_.1
def FnE.ps (e : FnE) : List Str := e.N.take e.F.np
/-- an atom as the head tells it -/
def dvOf : D → He.Dv
  | .bl b => .bl b
  | .int i => .int i
  | .str x => .str x
  | _ => .non
def FnE.defD (e : FnE) : He.DefD := ⟨e.at_, e.name, e.qual, defArgs e.st, defBody e.st, defScope e.st, e.F.dfl.map dvOf, []⟩
def fdAt (K : PySem.W.Frag) (p : Str × Option Str) : FuncData := match K.lookup (He.fAd K p) with
  | some ⟨_, _, .func fd, _⟩ => fd
  | _ => default
def Tab.prog (t : Tab) : Prog where
  fn := fun f => (t.fnAt f).map (·.F)
  glob := fun g => (t.globs[g]?).map (·.2)
  meth := fun c m => (t.cls[c]?).bind fun C => C.meths.lookup m
  sub := fun c c' => (t.cls[c]?).bind fun C => if c' < t.cls.length then some (C.subs.contains c') else none
  fld := fun c f => (t.cls[c]?).any fun C => C.flds.contains f
  exc := fun c => (t.cls[c]?).any (·.exc)
  xf := fun c => (t.cls[c]?).bind (·.xf)
def nmAt (l : List Str) (i : Nat) : Str := match l[i]? with
  | some x => x
  | none => ⟨Array.replicate (i + 1000) 0⟩
def Tab.cn (t : Tab) (c : Nat) : Str := match t.cls[c]? with
  | some C => C.name
  | none => Str.empty
def Tab.tx (t : Tab) (K : PySem.W.Frag) : Tx where
  ca := fun c => He.ga K (t.cn c)
  fn := nmAt t.fnm
  mn := fun m => t.mnm.getD m Str.empty
  cn := t.cn
  gn := fun g => match t.globs[g]? with
    | some q => q.1
    | none => Str.empty
  ln := fun f => match t.fnAt f with
    | some e => e.at_.1
    | none => Str.empty
  fa := fun f => match t.fnAt f with
    | some e => He.fAd K e.at_
    | none => 0
  fd := fun f => match t.fnAt f with
    | some e => fdAt K e.at_
    | none => default
  ps := fun f => match t.fnAt f with
    | some e => e.ps
    | none => []
  xf := fun c => (t.cls[c]?).bind (·.xf)
  tl := fun f => match t.fnAt f with
    | some e => e.at_.2 == none
    | none => false
  tc := fun c => decide (c < t.cls.length)
  gcd := t.gcd
  xo := fun c => (t.cls[c]?).any (·.xo)
  xh := fun c => (t.cls[c]?).any (·.xh)

/-! ### what the head is to tell -/
def eqV (a : Option (Option Value)) (b : Value) : Bool := He.eqO a (some (some b))
def subB (K : PySem.W.Frag) (a b : Value) (r : Bool) : Bool := decide (PySem.W.subIn K a b = some r) && decide (PySem.W.kitOne K a b = some r)
/-- an error's class -/
def excB (K : PySem.W.Frag) (C : Addr) : Bool := eqV (PySem.W.findIn K (.ref C) "__getattribute__") (.builtin "BaseException.__getattribute__") && (He.eqO (PySem.W.findIn K (.ref C) "__getattr__") (some none) && (decide (PySem.W.subIn K (.ref C) (.type "BaseException") = some true) && (PySem.W.hasDictIn K C &&
  (eqV (PySem.W.findIn K (.ref C) "__class__") (.builtin "object.__class__") && (eqV (PySem.W.specialIn K (.builtin "object.__class__") "__get__") (.builtin "getset_descriptor.__get__") && (decide (PySem.W.takesIn K (.builtin "object.__class__") = some true) &&
  (decide (PySem.W.mroIn K C (.type "object") = some true) && decide (PySem.W.kitOne K (.ref C) (.type "ValueError") = some true))))))))
def objB (K : PySem.W.Frag) (x : Str) : Bool := (He.Fa.cls x).ok K && (eqV (PySem.W.findIn K (.ref (He.ga K x)) "__class__") (.builtin "object.__class__") && (eqV (PySem.W.specialIn K (.builtin "object.__class__") "__get__") (.builtin "getset_descriptor.__get__") &&
  (decide (PySem.W.takesIn K (.builtin "object.__class__") = some true) && decide (PySem.W.mroIn K (He.ga K x) (.type "object") = some true))))
def methB (t : Tab) (K : PySem.W.Frag) (C : ClE) (q : Nat × Nat) : Bool := match t.mnm[q.1]?, t.fnAt q.2 with
  | some m, some e => decide (e.at_ = (C.name, some m)) && ((if q.1 = mInit then (He.Fa.mkr C.name).ok K else ((He.Fa.meth C.name m).ok K && PySem.W.selfFirst K (He.ga K C.name))) &&
    (if q.1 = mEq then eqV (PySem.W.findIn K (.ref (He.ga K C.name)) "__ne__") (.builtin "object.__ne__") && bltT.all fun s => decide (PySem.W.subIn K (.type s) (.ref (He.ga K C.name)) = some false) else true))
  | _, _ => false
def clsB (t : Tab) (K : PySem.W.Frag) (C : ClE) : Bool := (He.Fa.glo C.name).ok K && ((if C.exc then excB K (He.ga K C.name) && C.meths.isEmpty && C.flds.isEmpty else objB K C.name) && (C.flds.all (fun f => (He.Fa.noat C.name (nmAt t.fnm f)).ok K) && (C.meths.all (methB t K C) &&
  ((t.cls.zipIdx.all fun q => subB K (.ref (He.ga K C.name)) (.ref (He.ga K q.1.name)) (C.subs.contains q.2)) && ((bltT.all fun s => decide (PySem.W.kitOne K (.ref (He.ga K C.name)) (.type s) = some false) && decide (PySem.W.kitOne K (.type s) (.ref (He.ga K C.name)) = some false)) &&
  ((if C.xo then (He.Fa.exc C.name).ok K && C.xf.isNone else true) && (if C.xh then decide (PySem.W.subIn K (.ref (He.ga K C.name)) (.type "BaseException") = some true) && (PySem.W.hasDictIn K (He.ga K C.name) && decide (PySem.W.typeIn K (.ref (He.ga K C.name)) = some (.type "type"))) else true)))))))
def globB (K : PySem.W.Frag) (q : Str × D) : Bool := atom q.2 && (match PySem.W.nsIn K mainGlobals q.1 with
  | some (some u) => He.relB (atomV q.2) u
  | _ => false)
def factB (t : Tab) (K : PySem.W.Frag) : Bool := (t.cls.all (clsB t K)) && ((t.fns.all fun e => match e.at_.2 with
  | none => (He.Fa.glo e.at_.1).ok K && PySem.W.keepIn K (.ref (He.ga K e.at_.1))
  | some _ => true) && ((bltN.all fun x => (He.Fa.free x).ok K) && ((if t.gcd then eqV (PySem.W.nsIn K mainGlobals "gcd") (.builtin "math.gcd") else true) && t.globs.all (globB K))))

/-! ### what needs no head -/
def scopeB (N ps : List Str) (sc : Scope) : Bool := decide (sc.kind = .function) && (!sc.isCoroutine && (!sc.isGenerator && (decide N.Nodup && (decide (N.take ps.length = ps) &&
  ((ps.all fun x => decide (sc.names.lookup x = some .local) || decide (sc.names.lookup x = some .cell)) && sc.names.all fun y => decide (y.2 ≠ .free))))))
def fnB (t : Tab) (K : PySem.W.Frag) (e : FnE) : Bool := scopeB e.N e.ps (defScope e.st) && (decide (e.N.length = e.F.ns) && (decide (e.ps.length = e.F.np) && (okSs (t.tx K) t.prog (scOf e.N (defScope e.st)) e.F.body (defBody e.st) && (e.F.dfl.all atom && e.F.mu.all fun i => decide (i + e.F.dfl.length < e.F.np)))))
def statB (t : Tab) : Bool := decide t.fnm.Nodup && ((t.fnm.all fun x => decide (x.cps.size < 1000)) && ((t.mnm.all fun x => decide (x.cps.size < 1000) && !t.fnm.contains x) && (decide (t.mnm.take 6 = ["__init__", "__eq__", "__add__", "__sub__", "__mul__", "__neg__"].map Str.ofString) && t.cls.zipIdx.all fun q => q.1.subs.contains q.2)))

section
variable {t : Tab} {K : PySem.W.Frag} {h : Heap} {mg : Str → Option Value}
theorem nmAt_inj {l : List Str} (nd : l.Nodup) (sz : ∀ x ∈ l, x.cps.size < 1000) {i j : Nat} (e : nmAt l i = nmAt l j) : i = j := by
  have out : ∀ {i : Nat} {x : Str}, l[i]? = some x → ∀ {j : Nat}, l[j]? = none → nmAt l i ≠ nmAt l j := fun {i x} hi {j} hj z => by
    unfold nmAt at z
    rw [hi, hj] at z
    have h1 := sz x (List.mem_of_getElem? hi)
    dsimp only at z
    rw [z] at h1
    simp at h1
    omega
  cases hi : l[i]? with
  | none =>
    cases hj : l[j]? with
    | none =>
      unfold nmAt at e
      rw [hi, hj] at e
      have e2 := congrArg (fun s : Str => s.cps.size) e
      simp at e2
      exact e2
    | some y => exact absurd e.symm (out hj hi)
  | some x =>
    cases hj : l[j]? with
    | none => exact absurd e (out hi hj)
    | some y =>
      unfold nmAt at e
      rw [hi, hj] at e
      have e' : x = y := e
      subst e'
      exact (List.getElem?_inj (lt_of_get hi) nd).mp (by rw [hi, hj])
theorem of_all {α : Type} {l : List α} {p : α → Bool} (h : l.all p = true) {i : Nat} {x : α} (e : l[i]? = some x) : p x = true := List.all_eq_true.mp h x (List.mem_of_getElem? e)
theorem fn_mem {f : Nat} {e : FnE} (h : t.fnAt f = some e) : e ∈ t.fns := List.mem_of_find?_eq_some h
theorem of_fn {p : FnE → Bool} (h : t.fns.all p = true) {f : Nat} {e : FnE} (q : t.fnAt f = some e) : p e = true := List.all_eq_true.mp h e (fn_mem q)
theorem ba3 {a b : Bool} (h : (a && b) = true) : a = true ∧ b = true := Bool.and_eq_true_iff.mp h
structure ClFact (t : Tab) (K : PySem.W.Frag) (C : ClE) : Prop where
  glo : (He.Fa.glo C.name).ok K = true
  kind : (if C.exc then excB K (He.ga K C.name) && C.meths.isEmpty && C.flds.isEmpty else objB K C.name) = true
  flds : C.flds.all (fun f => (He.Fa.noat C.name (nmAt t.fnm f)).ok K) = true
  meths : C.meths.all (methB t K C) = true
  subs : (t.cls.zipIdx.all fun q => subB K (.ref (He.ga K C.name)) (.ref (He.ga K q.1.name)) (C.subs.contains q.2)) = true
  blt : (bltT.all fun s => decide (PySem.W.kitOne K (.ref (He.ga K C.name)) (.type s) = some false) && decide (PySem.W.kitOne K (.type s) (.ref (He.ga K C.name)) = some false)) = true
  xo : (if C.xo then (He.Fa.exc C.name).ok K && C.xf.isNone else true) = true
  xh : (if C.xh then decide (PySem.W.subIn K (.ref (He.ga K C.name)) (.type "BaseException") = some true) && (PySem.W.hasDictIn K (He.ga K C.name) && decide (PySem.W.typeIn K (.ref (He.ga K C.name)) = some (.type "type"))) else true) = true
theorem clFact {C : ClE} (h : clsB t K C = true) : ClFact t K C := by
  obtain ⟨h1, h⟩ := ba3 h
  obtain ⟨h2, h⟩ := ba3 h
  obtain ⟨h3, h⟩ := ba3 h
  obtain ⟨h4, h⟩ := ba3 h
  obtain ⟨h5, h⟩ := ba3 h
  obtain ⟨h6, h⟩ := ba3 h
  obtain ⟨h7, h8⟩ := ba3 h
  exact ⟨h1, h2, h3, h4, h5, h6, h7, h8⟩
theorem lookN {β : Type} {k : Nat} {v : β} : ∀ {l : List (Nat × β)}, l.lookup k = some v → (k, v) ∈ l
  | [], h => by cases h
  | (a, b) :: r, h => by
    rw [List.lookup_cons] at h
    cases q : (k == a) with
    | true => rw [q] at h; cases h; rw [eq_of_beq q]; exact List.mem_cons_self
    | false => rw [q] at h; exact List.mem_cons_of_mem _ (lookN h)
theorem meth_at {c m f : Nat} (h : t.prog.meth c m = some f) : ∃ C, t.cls[c]? = some C ∧ (m, f) ∈ C.meths := by
  have h' : ((t.cls[c]?).bind fun C => C.meths.lookup m) = some f := h
  cases e : t.cls[c]? with
  | none => rw [e] at h'; cases h'
  | some C =>
    rw [e] at h'
    have h2 : C.meths.lookup m = some f := h'
    exact ⟨C, rfl, lookN h2⟩
structure MeFact (t : Tab) (K : PySem.W.Frag) (C : ClE) (m f : Nat) : Prop where
  ex : ∃ n e, t.mnm[m]? = some n ∧ t.fnAt f = some e ∧ e.at_ = (C.name, some n) ∧ (m = mInit → (He.Fa.mkr C.name).ok K = true) ∧ (m ≠ mInit → (He.Fa.meth C.name n).ok K = true ∧ PySem.W.selfFirst K (He.ga K C.name) = true) ∧
    (m = mEq → PySem.W.findIn K (.ref (He.ga K C.name)) "__ne__" = some (some (.builtin "object.__ne__")) ∧ ∀ s ∈ bltT, PySem.W.subIn K (.type s) (.ref (He.ga K C.name)) = some false)
theorem meFact {C : ClE} {m f : Nat} (h : methB t K C (m, f) = true) : MeFact t K C m f := by
  unfold methB at h
  dsimp only at h
  split at h
  · rename_i n e h1 h2
    obtain ⟨h3, h⟩ := ba3 h
    obtain ⟨h4, h5⟩ := ba3 h
    refine ⟨n, e, h1, h2, of_decide_eq_true h3, fun z => ?_, fun z => ?_, fun z => ?_⟩
    · rw [if_pos z] at h4; exact h4
    · rw [if_neg z] at h4; exact ba3 h4
    · rw [if_pos z] at h5
      obtain ⟨h6, h7⟩ := ba3 h5
      exact ⟨He.eqO_ok h6, fun s hs => of_decide_eq_true (List.all_eq_true.mp h7 s hs)⟩
  · cases h
/-- an own class, no error -/
theorem ClFact.obj {C : ClE} (c : ClFact t K C) (h : C.exc = false) : Cls K (He.ga K C.name) ∧ PySem.W.findIn K (.ref (He.ga K C.name)) "__class__" = some (some (.builtin "object.__class__")) ∧
      PySem.W.specialIn K (.builtin "object.__class__") "__get__" = some (some (.builtin "getset_descriptor.__get__")) ∧ PySem.W.takesIn K (.builtin "object.__class__") = some true ∧ PySem.W.mroIn K (He.ga K C.name) (.type "object") = some true := by
  have k := c.kind
  rw [h] at k
  obtain ⟨h1, k⟩ := ba3 k
  obtain ⟨h2, k⟩ := ba3 k
  obtain ⟨h3, k⟩ := ba3 k
  obtain ⟨h4, h5⟩ := ba3 k
  exact ⟨He.cls_ok h1, He.eqO_ok h2, He.eqO_ok h3, of_decide_eq_true h4, of_decide_eq_true h5⟩
theorem ClFact.noexc {C : ClE} (c : ClFact t K C) (h : C.meths ≠ [] ∨ C.flds ≠ []) : C.exc = false := by
  cases e : C.exc with
  | false => rfl
  | true =>
    have k := c.kind
    rw [e] at k
    obtain ⟨k, k3⟩ := ba3 k
    obtain ⟨_, k2⟩ := ba3 k
    rcases h with h | h
    · exact absurd (List.isEmpty_iff.mp k2) h
    · exact absurd (List.isEmpty_iff.mp k3) h
/-- what the arguments bind -/
def BindT (K : PySem.W.Frag) (fd : FuncData) (e : FnE) : Prop := ∀ n, n ≤ e.F.np → e.F.np ≤ n + e.F.dfl.length → ∃ dvs ds, Vals dvs ds ∧ Binds K fd e.ps ds ∧ dvs.length = e.F.np - n ∧ ∀ G H, Reps G H dvs (e.F.dfl.drop (n + e.F.dfl.length - e.F.np))
theorem Tab.fac (X : K.In h) (G : h.Ns mainGlobals mg) (hf : factB t K = true) (hs : statB t = true) (hfn : t.fns.all (fnB t K) = true) (hb : ∀ (f : Nat) (e : FnE), t.fnAt f = some e → BindT K (fdAt K e.at_) e) : Fac (t.tx K) t.prog K mg := by
  obtain ⟨a1, hf⟩ := ba3 hf
  obtain ⟨a2, hf⟩ := ba3 hf
  obtain ⟨a3, hf⟩ := ba3 hf
  obtain ⟨a4, a5⟩ := ba3 hf
  obtain ⟨s1, hs⟩ := ba3 hs
  obtain ⟨s2, hs⟩ := ba3 hs
  obtain ⟨s3, hs⟩ := ba3 hs
  obtain ⟨s4, s5⟩ := ba3 hs
  have cl : ∀ {c C}, t.cls[c]? = some C → ClFact t K C := fun {c C} e => clFact (of_all a1 e)
  have ca : ∀ {c C}, t.cls[c]? = some C → (t.tx K).ca c = He.ga K C.name ∧ (t.tx K).cn c = C.name := fun {c C} e => by
    have : t.cn c = C.name := by unfold Tab.cn; rw [e]
    exact ⟨by show He.ga K (t.cn c) = _; rw [this], this⟩
  have me : ∀ {c m f}, t.prog.meth c m = some f → ∃ C, t.cls[c]? = some C ∧ ClFact t K C ∧ MeFact t K C m f ∧ C.exc = false := fun {c m f} h => by
    obtain ⟨C, h1, h2⟩ := meth_at h
    exact ⟨C, h1, cl h1, meFact (List.all_eq_true.mp (cl h1).meths _ h2), (cl h1).noexc (.inl fun z => by rw [z] at h2; cases h2)⟩
  have mn : ∀ {m n}, t.mnm[m]? = some n → (t.tx K).mn m = n := fun {m n} e => by
    show t.mnm.getD m Str.empty = n
    rw [List.getD_eq_getElem?_getD, e]; rfl
  have fa : ∀ {f e C n}, t.fnAt f = some e → e.at_ = (C, some n) → (t.tx K).fa f = He.ma K (He.ga K C) n := fun {f e C n} e1 e2 => by
    show (match t.fnAt f with | some e => He.fAd K e.at_ | none => 0) = _
    rw [e1]
    show He.fAd K e.at_ = _
    rw [e2]; rfl
  have m6 : t.mnm.take 6 = ["__init__", "__eq__", "__add__", "__sub__", "__mul__", "__neg__"].map Str.ofString := of_decide_eq_true s4
  have m6' : ∀ i n, (["__init__", "__eq__", "__add__", "__sub__", "__mul__", "__neg__"].map Str.ofString)[i]? = some n → (t.tx K).mn i = n := fun i n e => by
    refine mn ?_
    rw [← m6, List.getElem?_take] at e
    split at e
    · exact e
    · cases e
  have sub : ∀ {c c' b}, t.prog.sub c c' = some b → ∃ C C', t.cls[c]? = some C ∧ t.cls[c']? = some C' ∧ PySem.W.subIn K (.ref (He.ga K C.name)) (.ref (He.ga K C'.name)) = some b ∧ PySem.W.kitOne K (.ref (He.ga K C.name)) (.ref (He.ga K C'.name)) = some b := fun {c c' b} h => by
    have h' : ((t.cls[c]?).bind fun C => if c' < t.cls.length then some (C.subs.contains c') else none) = some b := h
    cases e : t.cls[c]? with
    | none => rw [e] at h'; cases h'
    | some C =>
      rw [e] at h'
      have h2 : (if c' < t.cls.length then some (C.subs.contains c') else none) = some b := h'
      by_cases q : c' < t.cls.length
      · rw [if_pos q] at h2
        cases h2
        have e2 : t.cls[c']? = some t.cls[c'] := List.getElem?_eq_getElem q
        have hm : (t.cls[c'], c') ∈ t.cls.zipIdx := by
          rw [List.mem_zipIdx_iff_getElem?]; exact e2
        obtain ⟨k1, k2⟩ := ba3 (List.all_eq_true.mp (cl e).subs _ hm)
        exact ⟨C, _, rfl, e2, of_decide_eq_true k1, of_decide_eq_true k2⟩
      · rw [if_neg q] at h2; cases h2
  have selfSub : ∀ {c c' b}, t.prog.sub c c' = some b → ∀ {C}, t.cls[c]? = some C → C.subs.contains c = true → t.prog.sub c c = some true := fun {c c' b} h {C} e hc => by
    show ((t.cls[c]?).bind fun C => if c < t.cls.length then some (C.subs.contains c) else none) = _
    rw [e]
    show (if c < t.cls.length then some (C.subs.contains c) else none) = _
    rw [if_pos (lt_of_get e), hc]
  refine {
    inj := fun i j e => nmAt_inj (of_decide_eq_true s1) (fun x hx => of_decide_eq_true (List.all_eq_true.mp s2 x hx)) e
    mf := fun c m f n h => ?_
    fld := fun c f h => ?_
    meth := fun c m f h hm => ?_
    make := fun c f h => ?_
    eqs := fun c f h => ?_
    isI := fun c h1 h2 => ?_
    kCC := fun c c' b h => ?_
    kCB := fun c h1 s hs => ?_
    kBC := fun c h1 s hs => ?_
    glob := fun g d h => ?_
    fnG := fun f h => ?_
    clG := fun c h => ?_
    blt := fun x hx => He.free_ok X G (List.all_eq_true.mp a3 x hx)
    gcd := fun h => ?_
    sub := fun c c' b h => ?_
    xf := fun c => rfl
    exO := fun c h => ?_
    exH := fun c h => ?_
    exC := fun c h => ?_
    nEq := m6' 1 _ rfl
    nAdd := m6' 2 _ rfl
    nSub := m6' 3 _ rfl
    nMul := m6' 4 _ rfl
    nNeg := m6' 5 _ rfl
    bind := fun f F h => ?_ }
  · obtain ⟨C, _, _, ⟨nm, e, h1, _⟩, _⟩ := me h
    rw [mn h1]
    obtain ⟨q1, q2⟩ := ba3 (of_all s3 h1)
    intro z
    have z' : nm = nmAt t.fnm n := z
    unfold nmAt at z'
    split at z'
    · rename_i x hx
      rw [z'] at q2
      have := List.mem_of_getElem? hx
      simp [this] at q2
    · have q3 := of_decide_eq_true q1
      rw [z'] at q3
      simp at q3
      omega
  · have h' : ((t.cls[c]?).any fun C => C.flds.contains f) = true := h
    cases e : t.cls[c]? with
    | none => rw [e] at h'; cases h'
    | some C =>
      rw [e] at h'
      have h2 : C.flds.contains f = true := h'
      have hm : f ∈ C.flds := by simpa using h2
      have c1 := cl e
      rw [(ca e).1]
      exact ⟨(c1.obj (c1.noexc (.inr fun z => by rw [z] at hm; cases hm))).1, He.noat_ok (List.all_eq_true.mp c1.flds f hm)⟩
  · obtain ⟨C, e1, c1, ⟨nm, e, k1, k2, k3, k4, k5, k6⟩, nx⟩ := me h
    obtain ⟨k7, k8⟩ := k5 hm
    rw [(ca e1).1, mn k1, fa k2 k3]
    exact ⟨(c1.obj nx).1, He.meth_ok k7, k8⟩
  · obtain ⟨C, e1, c1, ⟨nm, e, k1, k2, k3, k4, k5, k6⟩, nx⟩ := me h
    have hn : nm = ("__init__" : Str) := by
      have := m6' 0 _ rfl
      rw [mn k1] at this
      exact this
    rw [(ca e1).1, fa k2 k3, hn]
    exact ⟨He.mkr_ok (k4 rfl), (c1.obj nx).1⟩
  · obtain ⟨C, e1, c1, ⟨nm, e, k1, k2, k3, k4, k5, k6⟩, nx⟩ := me h
    obtain ⟨k7, k8⟩ := k5 (by decide)
    obtain ⟨k9, k10⟩ := k6 rfl
    rw [(ca e1).1, mn k1, fa k2 k3]
    exact ⟨(c1.obj nx).1, He.meth_ok k7, k9, (c1.obj nx).2.2.2.2, k10⟩
  · obtain ⟨C, C', e1, e2, _⟩ := sub h1
    have h3 : C.exc = false := by
      have h2' : ((t.cls[c]?).any (·.exc)) = false := h2
      rw [e1] at h2'
      exact h2'
    rw [(ca e1).1]
    exact (cl e1).obj h3
  · obtain ⟨C, C', e1, e2, k1, k2⟩ := sub h
    rw [(ca e1).1, (ca e2).1]
    refine ⟨selfSub h e1 ?_, k2⟩
    have hm : (C, c) ∈ t.cls.zipIdx := by rw [List.mem_zipIdx_iff_getElem?]; exact e1
    exact List.all_eq_true.mp s5 _ hm
  · obtain ⟨C, C', e1, e2, _⟩ := sub h1
    rw [(ca e1).1]
    exact of_decide_eq_true (ba3 (List.all_eq_true.mp (cl e1).blt s hs)).1
  · obtain ⟨C, C', e1, e2, _⟩ := sub h1
    rw [(ca e1).1]
    exact of_decide_eq_true (ba3 (List.all_eq_true.mp (cl e1).blt s hs)).2
  · have h' : ((t.globs[g]?).map (·.2)) = some d := h
    cases e : t.globs[g]? with
    | none => rw [e] at h'; cases h'
    | some q =>
      rw [e] at h'
      cases h'
      obtain ⟨k1, k2⟩ := ba3 (of_all a5 e)
      cases e3 : PySem.W.nsIn K mainGlobals q.1 with
      | none => rw [e3] at k2; cases k2
      | some o =>
        rw [e3] at k2
        cases o with
        | none => cases k2
        | some u =>
          refine ⟨u, atomV q.2, ?_, He.relB_ok k2, fun H => Rep.atomV k1⟩
          have hg : (t.tx K).gn g = q.1 := by
            show (match t.globs[g]? with | some q => q.1 | none => Str.empty) = _
            rw [e]
          rw [hg]
          exact PySem.W.mg_of X G e3
  · have h' : (match t.fnAt f with | some e => e.at_.2 == none | none => false) = true := h
    cases e : t.fnAt f with
    | none => rw [e] at h'; cases h'
    | some q =>
      rw [e] at h'
      have h2 : q.at_.2 = none := eq_of_beq h'
      have k := of_fn a2 e
      rw [h2] at k
      obtain ⟨k1, k2⟩ := ba3 k
      have e1 : (t.tx K).ln f = q.at_.1 := by
        show (match t.fnAt f with | some e => e.at_.1 | none => Str.empty) = _
        rw [e]
      have e2 : (t.tx K).fa f = He.ga K q.at_.1 := by
        show (match t.fnAt f with | some e => He.fAd K e.at_ | none => 0) = _
        rw [e]
        show He.fAd K q.at_ = _
        unfold He.fAd
        rw [h2]
      rw [e1, e2]
      exact ⟨He.glo_ok X G k1, k2⟩
  · have hc : c < t.cls.length := of_decide_eq_true h
    have e : t.cls[c]? = some t.cls[c] := List.getElem?_eq_getElem hc
    rw [(ca e).1, (ca e).2]
    exact He.glo_ok X G (cl e).glo
  · have h' : t.gcd = true := h
    rw [h'] at a4
    exact PySem.W.mg_of X G (He.eqO_ok a4)
  · obtain ⟨C, C', e1, e2, k1, k2⟩ := sub h
    rw [(ca e1).1, (ca e2).1]
    exact k1
  · have h' : ((t.cls[c]?).any (·.xo)) = true := h
    cases e : t.cls[c]? with
    | none => rw [e] at h'; cases h'
    | some C =>
      rw [e] at h'
      have h2 : C.xo = true := h'
      have k := (cl e).xo
      rw [h2] at k
      obtain ⟨k1, k2⟩ := ba3 k
      obtain ⟨q1, q2, q3, q4⟩ := He.exc_ok k1
      rw [(ca e).1, (ca e).2]
      refine ⟨⟨_, _, _, _, PySem.F.excBase_ValueError, q1⟩, He.glo_ok X G (cl e).glo, q2, q3, q4, ?_⟩
      show ((t.cls[c]?).bind (·.xf)) = none
      rw [e]
      exact Option.isNone_iff_eq_none.mp k2
  · have h' : ((t.cls[c]?).any (·.xh)) = true := h
    cases e : t.cls[c]? with
    | none => rw [e] at h'; cases h'
    | some C =>
      rw [e] at h'
      have h2 : C.xh = true := h'
      have k := (cl e).xh
      rw [h2] at k
      obtain ⟨k1, k⟩ := ba3 k
      obtain ⟨k2, k3⟩ := ba3 k
      rw [(ca e).1, (ca e).2]
      exact ⟨He.glo_ok X G (cl e).glo, of_decide_eq_true k1, k2, of_decide_eq_true k3⟩
  · have h' : ((t.cls[c]?).any (·.exc)) = true := h
    cases e : t.cls[c]? with
    | none => rw [e] at h'; cases h'
    | some C =>
      rw [e] at h'
      have h2 : C.exc = true := h'
      have k := (cl e).kind
      rw [h2] at k
      obtain ⟨k, _⟩ := ba3 k
      obtain ⟨k, _⟩ := ba3 k
      obtain ⟨k1, k⟩ := ba3 k
      obtain ⟨k2, k⟩ := ba3 k
      obtain ⟨k3, k⟩ := ba3 k
      obtain ⟨k4, k⟩ := ba3 k
      obtain ⟨k5, k⟩ := ba3 k
      obtain ⟨k6, k⟩ := ba3 k
      obtain ⟨k7, k⟩ := ba3 k
      obtain ⟨k8, k9⟩ := ba3 k
      rw [(ca e).1]
      exact ⟨⟨He.eqO_ok k1, He.eqO_ok k2, of_decide_eq_true k3, k4, He.eqO_ok k5, He.eqO_ok k6, of_decide_eq_true k7, of_decide_eq_true k8⟩, of_decide_eq_true k9⟩
  · have h' : ((t.fnAt f).map (·.F)) = some F := h
    cases e : t.fnAt f with
    | none => rw [e] at h'; cases h'
    | some q =>
      rw [e] at h'
      cases h'
      have k := of_fn hfn e
      obtain ⟨_, k⟩ := ba3 k
      obtain ⟨_, k⟩ := ba3 k
      obtain ⟨k1, _⟩ := ba3 k
      have e1 : (t.tx K).ps f = q.ps := by
        show (match t.fnAt f with | some e => e.ps | none => []) = _
        rw [e]
      have e2 : (t.tx K).fd f = fdAt K q.at_ := by
        show (match t.fnAt f with | some e => fdAt K e.at_ | none => default) = _
        rw [e]
      rw [e1, e2]
      exact ⟨of_decide_eq_true k1, hb f q e⟩
end
end Ev
/-! Ev 23: a law over the tables. -/
namespace Ev
open PySem PySem.Spec PyProof.Rows L2

/-- the binding of arguments, of the row alone -/
inductive BindP (e : FnE) : Prop
  | no (h0 : e.F.dfl = []) (h : ∀ (kV doc pm : Value) (an : Option Addr) (cdv ct : Value) (us : List Value), us.length = e.ps.length → bindArgs (PySem.W.fnOf e.name e.qual (defArgs e.st) (defBody e.st) (defScope e.st) .none kV doc pm an cdv ct) ⟨us, []⟩ = pure (e.ps.zip us)) : BindP e
  | df (h0 : e.F.dfl ≠ []) (h : ∀ (j : Nat), j ≤ e.F.dfl.length → ∀ (A : Addr) (kV doc pm : Value) (an : Option Addr) (cdv ct : Value) (us its : List Value), us.length + (e.F.dfl.length - j) = e.ps.length → its.length = e.F.dfl.length →
      ∃ k, bindArgs (PySem.W.fnOf e.name e.qual (defArgs e.st) (defBody e.st) (defScope e.st) (.ref A) kV doc pm an cdv ct) ⟨us, []⟩ = seqItems? (.ref A) >>= k ∧ k (some its.toArray) = pure (e.ps.zip (us ++ its.drop j))) : BindP e
section
variable {t : Tab} {K : PySem.W.Frag}
theorem dv_atom {d : D} (h : atom d = true) : (dvOf d).v K = atomV d := by
  cases d <;> first | rfl | cases h
theorem dvs_atom : ∀ {ds : List D}, ds.all atom = true → (ds.map dvOf).map (He.Dv.v K) = ds.map atomV
  | [], _ => rfl
  | d :: ds, h => by
    obtain ⟨h1, h2⟩ := ba3 (show (atom d && ds.all atom) = true from h)
    show (dvOf d).v K :: (ds.map dvOf).map (He.Dv.v K) = atomV d :: ds.map atomV
    rw [dv_atom h1, dvs_atom h2]
theorem rep_atom {G : Gm} {H : Hp} {d : D} (h : atom d = true) : Rep G H (atomV d) d := by
  cases d <;> first | constructor | cases h
theorem reps_atom {G : Gm} {H : Hp} : ∀ {ds : List D}, ds.all atom = true → Reps G H (ds.map atomV) ds
  | [], _ => .nil
  | d :: ds, h => by
    obtain ⟨h1, h2⟩ := ba3 (show (atom d && ds.all atom) = true from h)
    exact .cons (rep_atom h1) (reps_atom h2)
theorem all_drop {α : Type} {p : α → Bool} {l : List α} {j : Nat} (h : l.all p = true) : (l.drop j).all p = true :=
  List.all_eq_true.mpr fun x hx => List.all_eq_true.mp h x (List.mem_of_mem_drop hx)
/-- a def as the head tells it -/
abbrev FnD (K : PySem.W.Frag) (e : FnE) (fd : FuncData) : Prop := FunD K e.name e.qual (defArgs e.st) (defBody e.st) (defScope e.st) ((e.F.dfl.map dvOf).map (He.Dv.v K)) [] (He.fAd K e.at_) fd
theorem FnD.at_ {e : FnE} {fd : FuncData} (F : FnD K e fd) : fdAt K e.at_ = fd := by
  obtain ⟨oc, od, dV, kV, doc, pm, an, cdv, ct, osl, _, lk, _⟩ := F.ex
  unfold fdAt
  rw [lk]
theorem bindT_of {e : FnE} {fd : FuncData} (F : FnD K e fd) (B : BindP e) (ha : e.F.dfl.all atom = true) (hp : e.ps.length = e.F.np) : BindT K (fdAt K e.at_) e := by
  rw [F.at_]
  intro n h1 h2
  cases B with
  | no h0 h =>
    have F' := F
    unfold FnD at F'
    rw [h0] at F' h2
    refine ⟨[], [], .nil, FunD.bindsN F' h, ?_, fun G H => ?_⟩
    · simp at h2 ⊢; omega
    · rw [h0]
      simp
      exact .nil
  | df h0 h =>
    have hd : (e.F.dfl.map dvOf).map (He.Dv.v K) ≠ [] := by simpa using h0
    have hlen : ((e.F.dfl.map dvOf).map (He.Dv.v K)).length = e.F.dfl.length := by simp
    obtain ⟨ds, h3, h4⟩ := FunD.binds1 (ps := e.ps) F n (n + e.F.dfl.length - e.F.np) hd (by rw [hlen, hp]; omega) fun A kV doc pm an cdv ct us its l1 l2 => h (n + e.F.dfl.length - e.F.np) (by omega) A kV doc pm an cdv ct us its (by rw [l1, hp]; omega) (l2.trans hlen)
    refine ⟨_, ds, h3, h4, ?_, fun G H => ?_⟩
    · rw [List.length_drop, hlen]; omega
    · rw [dvs_atom ha, ← List.map_drop]
      exact reps_atom (all_drop ha)
theorem scopeB_ok {N ps : List Str} {sc : Scope} (h : scopeB N ps sc = true) : FnScope N ps sc := by
  obtain ⟨h1, h⟩ := ba3 h
  obtain ⟨h2, h⟩ := ba3 h
  obtain ⟨h3, h⟩ := ba3 h
  obtain ⟨h4, h⟩ := ba3 h
  obtain ⟨h5, h⟩ := ba3 h
  obtain ⟨h6, h7⟩ := ba3 h
  refine ⟨of_decide_eq_true h1, by simpa using h2, by simpa using h3, of_decide_eq_true h4, of_decide_eq_true h5, fun x hx => ?_, fun y hy => of_decide_eq_true (List.all_eq_true.mp h7 y hy)⟩
  have := List.all_eq_true.mp h6 x hx
  rw [Bool.or_eq_true] at this
  exact this.imp of_decide_eq_true of_decide_eq_true
theorem prog_fn {f : Nat} {F : Fn} (h : t.prog.fn f = some F) : ∃ e, t.fnAt f = some e ∧ e.F = F := by
  have h' : (t.fnAt f).map (·.F) = some F := h
  cases q : t.fnAt f with
  | none => rw [q] at h'; cases h'
  | some e => rw [q] at h'; cases h'; exact ⟨e, rfl, rfl⟩
structure FnB (t : Tab) (K : PySem.W.Frag) (e : FnE) : Prop where
  sc : FnScope e.N e.ps (defScope e.st)
  ns : e.N.length = e.F.ns
  np : e.ps.length = e.F.np
  body : okSs (t.tx K) t.prog (scOf e.N (defScope e.st)) e.F.body (defBody e.st) = true
  dfl : e.F.dfl.all atom = true
  mu : ∀ i ∈ e.F.mu, i + e.F.dfl.length < e.F.np
theorem fnB_ok {e : FnE} (h : fnB t K e = true) : FnB t K e := by
  obtain ⟨h1, h⟩ := ba3 h
  obtain ⟨h2, h⟩ := ba3 h
  obtain ⟨h3, h⟩ := ba3 h
  obtain ⟨h4, h⟩ := ba3 h
  obtain ⟨h5, h6⟩ := ba3 h
  exact ⟨scopeB_ok h1, of_decide_eq_true h2, of_decide_eq_true h3, h4, h5, fun i hi => of_decide_eq_true (List.all_eq_true.mp h6 i hi)⟩
theorem muOk_of (hfn : t.fns.all (fnB t K) = true) : MuOk t.prog := ⟨fun f F h i hi => by
  obtain ⟨e, h1, rfl⟩ := prog_fn h
  exact (fnB_ok (of_fn hfn h1)).mu i hi⟩
theorem txt_of (hfn : t.fns.all (fnB t K) = true) (hd : ∀ e ∈ t.fns, ∃ fd, FnD K e fd) (f : Nat) (F : Fn) (h : t.prog.fn f = some F) : FnTxt (t.tx K) t.prog K f F := by
  obtain ⟨e, h1, rfl⟩ := prog_fn h
  obtain ⟨fd, F⟩ := hd e (fn_mem h1)
  have B := fnB_ok (of_fn hfn h1)
  have e1 : (t.tx K).fd f = fd := by
    show (match t.fnAt f with | some e => fdAt K e.at_ | none => default) = _
    rw [h1]
    exact F.at_
  have e2 : (t.tx K).fa f = He.fAd K e.at_ := by
    show (match t.fnAt f with | some e => He.fAd K e.at_ | none => 0) = _
    rw [h1]
  have e3 : (t.tx K).ps f = e.ps := by
    show (match t.fnAt f with | some e => e.ps | none => []) = _
    rw [h1]
  obtain ⟨oc, od, dV, kV, doc, pm, an, cdv, ct, osl, hf, lk, hcd, _, _⟩ := F.ex
  refine ⟨e.name, e.qual, defArgs e.st, defBody e.st, defScope e.st, dV, kV, doc, pm, cdv, ct, oc, an, od, osl, e.N, ?_, ?_, hcd, ?_, B.ns, B.body⟩
  · rw [e1]; exact hf
  · rw [e1, e2]; exact lk
  · rw [e3]; exact B.sc
end
theorem reps_ints {G : Gm} {H : Hp} : ∀ ns : List Int, Reps G H (ns.map V.int) (ns.map D.int)
  | [] => .nil
  | n :: ns => .cons (.int n) (reps_ints ns)
/-- the law's end over the tables -/
theorem law_of {l : PySem.W.OpenLaw} {n k m g : Nat} {q : Program} {loose : List Str} {XP : (Str → Option Value) → Heap → Prop} {d : DefRec} {fa : List He.Fa} {t : Tab} {e : FnE} {x : Str}
    (hn : l.most = some n) (hn2 : n ≤ sizeLine) (hdf : d.params.defaults = []) (hr : Room (Lv k) callerA)
    (hs : statB t = true) (hfn : ∀ K, t.fns.all (fnB t K) = true) (hb : ∀ e ∈ t.fns, BindP e) (he : t.fnAt g = some e) (hname : e.at_ = (d.name, none)) (hps : e.ps = [x]) (hmu : e.F.mu = []) (hdfl : e.F.dfl = [])
    (hlaw : ∀ ns : List Int, ns.length ≤ n → run t.prog k g [.fr (.frz (ns.map .int))] = some (.ret (.fr (.bl true)) [])) :
    PySem.W.WalkO q loose XP (He.hookX m fa (t.fns.map FnE.defD) [] [] (factB t)).says l.row.toRowW d [] (fun f vs => PySem.call f vs) := by
  refine Att.attach_call hn hdf fun w s₀ s₁ mg mb fa o pm cd doc a vs ns G Y ho hd hcd hmg hobj hints hlen hg => ?_
  obtain ⟨K, KX, c⟩ := Y
  have hds : ∀ e ∈ t.fns, ∃ fd, FnD K e fd := fun e he => c.t.d.defs (List.mem_map_of_mem he)
  have hB : ∀ (f : Nat) (e : FnE), t.fnAt f = some e → FnB t K e := fun f e h => fnB_ok (of_fn (hfn K) h)
  have hbt : ∀ (f : Nat) (e : FnE), t.fnAt f = some e → BindT K (fdAt K e.at_) e := fun f e h => by
    obtain ⟨fd, F⟩ := hds e (fn_mem h)
    exact bindT_of F (hb e (fn_mem h)) (hB f e h).dfl (hB f e h).np
  have fac : Fac (t.tx K) t.prog K mg := Tab.fac KX G.T.g c.more hs (hfn K) hbt
  obtain ⟨fd, F⟩ := hds e (fn_mem he)
  have e1 : (t.tx K).fd g = fdAt K e.at_ := by
    show (match t.fnAt g with | some e => fdAt K e.at_ | none => default) = _
    rw [he]
  have e2 : (t.tx K).fa g = He.fAd K e.at_ := by
    show (match t.fnAt g with | some e => He.fAd K e.at_ | none => 0) = _
    rw [he]
  have e3 : (t.tx K).ps g = [x] := by
    show (match t.fnAt g with | some e => e.ps | none => []) = _
    rw [he]; exact hps
  have hp1 : e.F.np = 1 := by rw [← (hB g e he).np, hps]; rfl
  have tl : (t.tx K).tl g = true := by
    show (match t.fnAt g with | some e => e.at_.2 == none | none => false) = true
    rw [he]
    show (e.at_.2 == none) = true
    rw [hname]; rfl
  have ln : (t.tx K).ln g = d.name := by
    show (match t.fnAt g with | some e => e.at_.1 | none => Str.empty) = _
    rw [he]
    show e.at_.1 = _
    rw [hname]
  have hfa : fa = (t.tx K).fa g := by
    have h1 := (fac.fnG g tl).1
    rw [ln, hmg] at h1
    cases h1
    rfl
  have hbind : ∀ (s : Shared) (u : Value), BindsTo s ((t.tx K).fd g) ⟨[u], []⟩ [(x, u)] := fun s u => by
    rw [e1, F.at_]
    cases hb e (fn_mem he) with
    | no h0 h =>
      have F' := F
      unfold FnD at F'
      rw [h0] at F'
      have := FunD.bindsA F' h s [u] (by rw [hps]; rfl)
      rw [hps] at this
      exact this
    | df h0 h => exact absurd hdfl h0
  rw [hfa]
  refine law_call (sp := spD (t.tx K) (run t.prog k) K e.F.np e.F.mu g) (CX := L2.CX l.prog w) KX G.T.g G.T.b G.T.builtins G.T.nolimit hg hobj hints (Nat.le_trans hlen hn2) hr
    (fun base hbase hns => ?_) hbind (fun H hO hS => ?_) (fun H e s' z => ?_)
  · have := fnOk fac (muOk_of (hfn K)) (txt_of (hfn K) hds) (prog := l.prog) (w := w) (base := base) k g e.F (by show (t.fnAt g).map (·.F) = _; rw [he]; rfl)
    rw [e3] at this
    exact this
  · refine ⟨hp1 ▸ rfl, [.fr (.frz (ns.map .int))], H, _, hp1 ▸ rfl, ?_, hlaw ns hlen, ?_⟩
    · refine ⟨fun _ _ h => h, fun i z h => ?_, fun i j z z' _ _ b h1 h2 _ _ h3 => ?_⟩
      · cases i with
        | zero => cases h; exact ⟨.ref a, rfl, .frz hS (reps_ints ns)⟩
        | succ i => cases h
      · cases i with
        | zero => cases h1; cases h3
        | succ i => cases h1
    · exact fun v Hf' H' _ _ sr _ => by
        cases (show Rep _ Hf' v (.bl true) from sr)
        rfl
  · obtain ⟨a, B, H', cls, d, _, _, _, _, _, _, _, z⟩ := z
    exact z
end Ev
/-! Ev 24: the evaluator, step by step. -/
namespace Ev
open PySem
noncomputable section
theorem nr {α : Sort _} {a b : α} (h : a = b) : a = b := h
/-! ### what goes on behind an answer: the answer first -/
/-- so that simp looks at the answer alone -/
abbrev Rs {κ : Type} (α : Type) (_ : κ) : Type := α
def bO {α β : Type} (m : Option α) (k : α → Option β) : Rs (Option β) k := match m with
  | none => none
  | some a => k a
def tF (m : Option F) (k : EnvD → Option F) : Rs (Option F) k := match m with
  | some (.nx ρ) => k ρ
  | r => r
def brB {α : Type} (t : Bool) (a b : α) : Rs (Rs α a) b := match t with
  | true => a
  | false => b
def brT {β : Type} (t : Option Bool) (a b : Option β) : Rs (Rs (Option β) a) b := match t with
  | some true => a
  | some false => b
  | none => none
def onT {β : Type} (t : Option Bool) (k : Bool → Option β) : Rs (Option β) k := match t with
  | some b => k b
  | none => none
def bR {α β : Type} (m : Option (R α)) (k : α → EnvD → Option (R β)) : Rs (Option (R β)) k := bindR m k
def bF {α : Type} (m : Option (R α)) (k : α → EnvD → Option F) : Rs (Option F) k := bindF m k
/-- a function's answer -/
def outR (mu : List Nat) : Option F → Option CR
  | none => none
  | some (.ex x) => some (CR.exc x)
  | some (.nx ρ) => (fins ρ mu).map fun es => .ret (.fr .non) es
  | some (.rt e ρ) => (fins ρ mu).map fun es => .ret e es
def callOk (F : Fn) (as : List EV) : Bool := decide (as.length ≤ F.np) && (decide (F.np ≤ as.length + F.dfl.length) && (handed F.mu 0 as && decide (F.np ≤ F.ns)))
def envOf (F : Fn) (as : List EV) : EnvD := (as ++ (F.dfl.drop (as.length + F.dfl.length - F.np)).map EV.fr).map some ++ List.replicate (F.ns - F.np) none
/-- what a call's answer leaves -/
def putR (b : Bool) (is : List Nat) (ρ : EnvD) : Option CR → Option (R EV)
  | none => none
  | some (.exc x) => some (.ex x)
  | some (.ret e fin) => if (b && !e.plain) = true then none else bO (putM is fin ρ) fun ρ' => some (.ok e ρ')
def callE (C : Orc) (F : Fn) (f : Nat) (ods : List OD) (ρ : EnvD) : Option (R EV) := bO (slotsAt ods F.mu) fun is => if (okM F.mu 0 ods && nodupB is && (is.isEmpty || !ods.any OD.isB)) = true then bO (args ρ ods) fun as => putR (ods.any OD.isB) is ρ (C f as) else none
def newR (c : Nat) (ρ : EnvD) : Option CR → Option (R EV)
  | some (CR.ret (.fr .non) [.oi c' ns xs]) => if c' = c then some (.ok (.fr (.ins c ns xs)) ρ) else none
  | some (CR.exc x) => some (.ex x)
  | _ => none
section
variable {α β : Type} {P : Prog} {C : Orc} {ρ : EnvD} {mu : List Nat}
theorem bindR_k {m : Option (R α)} {k k' : α → EnvD → Option (R β)} (h : ∀ a ρ, k a ρ = k' a ρ) : bindR m k = bindR m k' := by
  rw [show k = k' from funext fun a => funext fun ρ => h a ρ]
theorem bindR_ok {a : α} {ρ : EnvD} {k : α → EnvD → Option (R β)} : bindR (some (.ok a ρ)) k = k a ρ := rfl
theorem bindR_ex {x : Exn} {k : α → EnvD → Option (R β)} : bindR (some (.ex x)) k = some (.ex x) := rfl
theorem bindR_no {k : α → EnvD → Option (R β)} : bindR none k = none := rfl
theorem bindF_ok {a : α} {ρ : EnvD} {k : α → EnvD → Option F} : bindF (some (.ok a ρ)) k = k a ρ := rfl
theorem bindF_ex {x : Exn} {k : α → EnvD → Option F} : bindF (some (.ex x)) k = some (.ex x) := rfl
theorem bindF_no {k : α → EnvD → Option F} : bindF none k = none := rfl
theorem bO_some {a : α} {k : α → Option β} : bO (some a) k = k a := rfl
theorem tF_nx {k : EnvD → Option F} : tF (some (.nx ρ)) k = k ρ := rfl
theorem tF_rt {e : EV} {k : EnvD → Option F} : tF (some (.rt e ρ)) k = some (.rt e ρ) := rfl
theorem tF_ex {x : Exn} {k : EnvD → Option F} : tF (some (.ex x)) k = some (.ex x) := rfl
theorem brB_t {a b : α} : brB true a b = a := rfl
theorem brB_f {a b : α} : brB false a b = b := rfl
theorem brT_t {a b : Option β} : brT (some true) a b = a := rfl
theorem brT_f {a b : Option β} : brT (some false) a b = b := rfl
theorem onT_s {b : Bool} {k : Bool → Option β} : onT (some b) k = k b := rfl
theorem outR_rt {e : EV} : outR [] (some (.rt e ρ)) = some (.ret e []) := rfl
theorem outR_nx : outR [] (some (.nx ρ)) = some (.ret (.fr .non) []) := rfl
theorem outR_ex {x : Exn} : outR mu (some (.ex x)) = some (CR.exc x) := rfl
theorem outM_rt {e : EV} : outR mu (some (.rt e ρ)) = (fins ρ mu).map fun es => .ret e es := rfl
theorem outM_nx : outR mu (some (.nx ρ)) = (fins ρ mu).map fun es => .ret (.fr .non) es := rfl
theorem run_on {k f : Nat} {F : Fn} {as : List EV} (hF : P.fn f = some F) (hc : callOk F as = true) : run P (k + 1) f as = outR F.mu (execs P (run P k) F.body F.mu (envOf F as)) := by
  unfold callOk at hc
  simp only [Bool.and_eq_true, decide_eq_true_eq] at hc
  rw [run]
  simp only [hF]
  rw [if_pos ⟨hc.1, hc.2.1, hc.2.2.1, hc.2.2.2⟩]
  show (match execs P (run P k) F.body F.mu (envOf F as) with | none => none | some (.ex x) => some (CR.exc x) | some (.nx ρ) => _ | some (.rt e ρ) => _) = _
  cases execs P (run P k) F.body F.mu (envOf F as) with
  | none => rfl
  | some r => cases r <;> rfl
/-! ### expressions -/
theorem ve_cst {d : D} (h : atom d = true) : ev P C (.cst d) ρ = some (.ok (.fr d) ρ) := by rw [ev, if_pos h]
theorem ve_non : ev P C (.cst .non) ρ = some (.ok (.fr .non) ρ) := ve_cst rfl
theorem ve_bl {b : Bool} : ev P C (.cst (.bl b)) ρ = some (.ok (.fr (.bl b)) ρ) := ve_cst rfl
theorem ve_int {i : Int} : ev P C (.cst (.int i)) ρ = some (.ok (.fr (.int i)) ρ) := ve_cst rfl
theorem ve_str {x : Str} : ev P C (.cst (.str x)) ρ = some (.ok (.fr (.str x)) ρ) := ve_cst rfl
def varK (ρ : EnvD) (i : Nat) : Option EV → Option (R EV)
  | some (.fr d) => some (.ok (.fr d) ρ)
  | some (.ow xs) => some (.ok (.fr (.lst xs)) (ρ.set i (some (.fr (.lst xs)))))
  | some (.tb xss) => some (.ok (.fr (.lst (xss.map .lst))) (ρ.set i (some (.fr (.lst (xss.map .lst))))))
  | _ => none
theorem ve_var {i : Nat} : ev P C (.var i) ρ = varK ρ i (get ρ i) := by
  rw [ev]
  cases get ρ i with
  | none => rfl
  | some e => cases e <;> rfl
theorem varK_fr {i : Nat} {d : D} : varK ρ i (some (.fr d)) = some (.ok (.fr d) ρ) := rfl
theorem varK_tb {i : Nat} {xss : List (List D)} : varK ρ i (some (.tb xss)) = some (.ok (.fr (.lst (xss.map .lst))) (ρ.set i (some (.fr (.lst (xss.map .lst)))))) := rfl
theorem varK_ow {i : Nat} {xs : List D} : varK ρ i (some (.ow xs)) = some (.ok (.fr (.lst xs)) (ρ.set i (some (.fr (.lst xs))))) := rfl
theorem ve_own {i : Nat} : ev P C (.own i) ρ = bO (get ρ i) fun e => some (.ok e (ρ.set i none)) := by
  rw [ev]
  cases get ρ i <;> rfl
theorem ve_glob {g : Nat} : ev P C (.glob g) ρ = bO (P.glob g) fun d => some (.ok (.fr d) ρ) := by
  rw [ev]
  cases P.glob g <;> rfl
theorem ve_op {o : Op} {es : Es} : ev P C (.op o es) ρ = bindR (evl P C es ρ) fun ods ρ1 => if (o.keeps && !ods.all OD.isD) = true then none else bO (views ρ1 ods) fun ds => lift (opS P (orc C o ods) o ds) ρ1 := by
  rw [ev]
  congr 1
  funext ods ρ1
  split
  · rfl
  · cases views ρ1 ods <;> rfl
theorem ve_and {a b : E} : ev P C (.and a b) ρ = bindR (ev P C a ρ) fun v ρ1 => brT (truth v.fz) (ev P C b ρ1) (some (.ok (.fr v.fz) ρ1)) := by
  rw [ev]
  refine bindR_k fun v ρ1 => ?_
  cases truth v.fz with
  | none => rfl
  | some b => cases b <;> rfl
theorem ve_or {a b : E} : ev P C (.or a b) ρ = bindR (ev P C a ρ) fun v ρ1 => brT (truth v.fz) (some (.ok (.fr v.fz) ρ1)) (ev P C b ρ1) := by
  rw [ev]
  refine bindR_k fun v ρ1 => ?_
  cases truth v.fz with
  | none => rfl
  | some b => cases b <;> rfl
theorem ve_not {a : E} : ev P C (.not a) ρ = bindR (ev P C a ρ) fun v ρ1 => onT (truth v.fz) fun b => some (.ok (.fr (.bl (!b))) ρ1) := by
  rw [ev]
  refine bindR_k fun v ρ1 => ?_
  cases truth v.fz <;> rfl
theorem ve_ife {c a b : E} : ev P C (.ife c a b) ρ = bindR (ev P C c ρ) fun v ρ1 => brT (truth v.fz) (ev P C a ρ1) (ev P C b ρ1) := by
  rw [ev]
  unfold tst
  cases ev P C c ρ with
  | none => rfl
  | some r =>
    cases r with
    | ex x => rfl
    | ok v ρ1 =>
      simp only [bindR_ok]
      cases truth v.fz with
      | none => rfl
      | some b => cases b <;> rfl
theorem apply_on {f : Nat} {F : Fn} {ods : List OD} (hF : P.fn f = some F) : apply P C f ods ρ = callE C F f ods ρ := by
  unfold apply callE
  rw [hF]
  dsimp only
  cases slotsAt ods F.mu with
  | none => rfl
  | some is =>
    dsimp only [bO]
    split
    · rename_i z
      first | rw [if_pos z] | skip
      cases args ρ ods with
      | none => rfl
      | some as =>
        dsimp only [bO]
        cases C f as with
        | none => rfl
        | some r =>
          cases r with
          | exc x => rfl
          | ret e fin =>
            dsimp only [putR]
            split
            · rfl
            · cases putM is fin ρ <;> rfl
    · rename_i z
      first | rw [if_neg z] | rfl
theorem ve_call {f : Nat} {es : Es} : ev P C (.call f es) ρ = bindR (evl P C es ρ) fun ods ρ1 => apply P C f ods ρ1 := by rw [ev]
theorem ve_new {c : Nat} {es : Es} : ev P C (.new c es) ρ = bindR (evl P C es ρ) fun ods ρ1 => make P C c ods ρ1 := by rw [ev]
theorem make_on {c f : Nat} {F : Fn} {ods : List OD} (hm : P.meth c mInit = some f) (hF : P.fn f = some F) (hmu : F.mu = [0]) : make P C c ods ρ = if ods.all OD.isD = true then bO (views ρ ods) fun ds => newR c ρ (C f (.oi c [] [] :: ds.map .fr)) else none := by
  unfold make
  split
  · cases views ρ ods with
    | none => rfl
    | some ds =>
      simp only [hm, hF, if_pos hmu, bO]
      unfold newR
      rfl
  · rfl
def methK (P : Prog) (C : Orc) (m : Nat) (es : Es) (ρ : EnvD) : D → Option (R EV)
  | .ins c ns xs => bO (P.meth c m) fun f => bindR (evl P C es ρ) fun ods ρ2 => apply P C f (.d (.ins c ns xs) :: ods) ρ2
  | _ => none
theorem ve_meth {m : Nat} {o : E} {es : Es} : ev P C (.meth m o es) ρ = bindR (ev P C o ρ) fun v ρ1 => methK P C m es ρ1 v.fz := by
  rw [ev]
  congr 1
  funext v ρ1
  cases v.fz with
  | ins c ns xs =>
    unfold methK
    dsimp only
    cases P.meth c m <;> rfl
  | _ => rfl
theorem methK_ins {m c : Nat} {ns : List Nat} {xs : List D} {es : Es} : methK P C m es ρ (.ins c ns xs) = bO (P.meth c m) fun f => bindR (evl P C es ρ) fun ods ρ2 => apply P C f (.d (.ins c ns xs) :: ods) ρ2 := rfl
theorem vl_nil : evl P C .nil ρ = some (.ok [] ρ) := by rw [evl]
theorem vl_bor {i : Nat} {es : Es} : evl P C (.cons (.bor i) es) ρ = bO (get ρ i) fun _ => bindR (evl P C es ρ) fun ods ρ1 => some (.ok (.b i :: ods) ρ1) := by
  rw [evl]
  cases get ρ i <;> rfl
theorem vl_mut {i : Nat} {es : Es} : evl P C (.cons (.mut i) es) ρ = bO (get ρ i) fun _ => bindR (evl P C es ρ) fun ods ρ1 => some (.ok (.m i :: ods) ρ1) := by
  rw [evl]
  cases get ρ i <;> rfl
def E.val : E → Bool
  | .bor _ => false
  | .mut _ => false
  | _ => true
theorem vl_cons {e : E} {es : Es} (h : e.val = true) : evl P C (.cons e es) ρ = bindR (ev P C e ρ) fun v ρ1 => bindR (evl P C es ρ1) fun ods ρ2 => some (.ok (.d v.fz :: ods) ρ2) := by
  cases e <;> first | (rw [evl] <;> (intro i z; cases z)) | cases h
theorem get_z {x : EV} {r : EnvD} : get (some x :: r) 0 = some x := rfl
theorem get_s {x : Option EV} {r : EnvD} {n : Nat} : get (x :: r) (n + 1) = get r n := rfl
/-! ### statements -/
theorem execs_nil : execs P C .nil mu ρ = some (.nx ρ) := by rw [execs]
theorem execs_cons {s : S} {ss : Ss} : execs P C (.cons s ss) mu ρ = tF (exec P C s mu ρ) fun ρ1 => execs P C ss mu ρ1 := by
  rw [execs]
  cases exec P C s mu ρ with
  | none => rfl
  | some r => cases r <;> rfl
theorem exec_pass : exec P C .pass mu ρ = some (.nx ρ) := by rw [exec]
theorem exec_asg {t : Tg} {e : E} : exec P C (.asg t e) mu ρ = bindF (ev P C e ρ) fun v ρ1 => bO (asgT mu t v ρ1) fun ρ2 => some (.nx ρ2) := by
  rw [exec]
  congr 1
  funext v ρ1
  cases asgT mu t v ρ1 <;> rfl
theorem exec_par {i j : Nat} {a b : E} : exec P C (.par i j a b) mu ρ = bindF (ev P C a ρ) fun v ρ1 => bindF (ev P C b ρ1) fun w ρ2 => if (mu.contains i || mu.contains j || i == j) = true then none else some (.nx ((ρ2.set i (some v)).set j (some w))) := by rw [exec]
theorem exec_fld {i f : Nat} {e : E} : exec P C (.fld i f e) mu ρ = bindF (ev P C e ρ) fun v ρ1 => fldE P ρ1 i f v.fz := by rw [exec]
theorem exec_expr {e : E} : exec P C (.expr e) mu ρ = bindF (ev P C e ρ) fun _ ρ1 => some (.nx ρ1) := by rw [exec]
theorem exec_ret {e : E} : exec P C (.ret e) mu ρ = bindF (ev P C e ρ) fun v ρ1 => some (.rt v ρ1) := by rw [exec]
theorem exec_retn : exec P C .retn mu ρ = some (.rt (.fr .non) ρ) := by rw [exec]
theorem exec_ifs {c : E} {a b : Ss} : exec P C (.ifs c a b) mu ρ = bindF (ev P C c ρ) fun v ρ1 => onT (truth v.fz) fun t => brB t (execs P C a mu ρ1) (execs P C b mu ρ1) := by
  rw [exec]
  unfold tst
  cases ev P C c ρ with
  | none => rfl
  | some r =>
    cases r with
    | ex x => rfl
    | ok v ρ1 =>
      simp only [bindR_ok, bindF_ok]
      cases truth v.fz with
      | none => rfl
      | some b => cases b <;> rfl
def owns : Option EV → Bool
  | some (.ow _) => true
  | _ => false
theorem exec_sub {i : Nat} {x e : E} : exec P C (.sub i x e) mu ρ = bindF (ev P C e ρ) fun v ρ1 => if owns (get ρ1 i) = true then bindF (ev P C x ρ1) fun k ρ2 => setE ρ2 i v.fz k else none := by
  rw [exec]
  congr 1
  funext v ρ1
  cases get ρ1 i with
  | none => rfl
  | some e => cases e <;> rfl
theorem exec_app {i : Nat} {e : E} : exec P C (.app i e) mu ρ = if owns (get ρ i) = true then bindF (ev P C e ρ) fun v ρ1 => appE ρ1 i v.fz else none := by
  rw [exec]
  cases get ρ i with
  | none => rfl
  | some e => cases e <;> rfl
def augK (P : Prog) (C : Orc) (i : Nat) (o : Op) (e : E) (mu : List Nat) (ρ : EnvD) : Option EV → Option F
  | some (.fr (.int a)) => bindF (ev P C e ρ) fun v ρ1 => if mu.contains i = true then none else augE ρ1 i a o v.fz
  | _ => none
theorem exec_aug {i : Nat} {o : Op} {e : E} : exec P C (.aug i o e) mu ρ = augK P C i o e mu ρ (get ρ i) := by
  rw [exec]
  cases get ρ i with
  | none => rfl
  | some e => 
    cases e with
    | fr d => cases d <;> rfl
    | _ => rfl
theorem augK_int {i : Nat} {o : Op} {e : E} {a : Int} : augK P C i o e mu ρ (some (.fr (.int a))) = bindF (ev P C e ρ) fun v ρ1 => if mu.contains i = true then none else augE ρ1 i a o v.fz := rfl
def whK (c : EnvD → Option (R Bool)) (b : EnvD → Option F) (w : EnvD → Option F) (ρ : EnvD) : Option F := match c ρ with
    | none => none
    | some (.ex x) => some (.ex x)
    | some (.ok false ρ') => some (.nx ρ')
    | some (.ok true ρ') => match b ρ' with
      | none => none
      | some (.nx ρ2) => w ρ2
      | some r => some r
theorem wh_step {c : EnvD → Option (R Bool)} {b : EnvD → Option F} : wh c b ρ = whK c b (wh c b) ρ := by
  have h1 : ∀ r, wh c b ρ = some r → whK c b (wh c b) ρ = some r := fun r h => by
    obtain ⟨n, hn⟩ := wh_get h
    cases n with
    | zero => cases hn
    | succ n =>
      rw [whN] at hn
      revert hn
      unfold whK
      cases c ρ with
      | none => exact fun h => h
      | some q =>
        cases q with
        | ex x => exact fun h => h
        | ok t ρ' =>
          cases t with
          | false => exact fun h => h
          | true =>
            dsimp only
            cases b ρ' with
            | none => exact fun h => h
            | some r2 =>
              cases r2 with
              | nx ρ2 => exact fun h => wh_of h
              | rt _ _ => exact fun h => h
              | ex _ => exact fun h => h
  have h2 : ∀ r, whK c b (wh c b) ρ = some r → wh c b ρ = some r := fun r h => by
    unfold whK at h
    split at h
    · cases h
    · rename_i x e; exact wh_of (n := 1) (by rw [whN, e]; exact h)
    · rename_i ρ' e; exact wh_of (n := 1) (by rw [whN, e]; exact h)
    · rename_i ρ' e
      split at h
      · cases h
      · rename_i ρ2 e2
        obtain ⟨n, hn⟩ := wh_get h
        exact wh_of (n := n + 1) (by rw [whN, e]; dsimp only; rw [e2]; exact hn)
      · rename_i r2 hr e2
        refine wh_of (n := 1) ?_
        rw [whN, e]
        dsimp only
        rw [e2]
        cases r2 <;> first | exact h | exact absurd rfl (hr _)
  cases e : wh c b ρ with
  | some r => exact (h1 r e).symm
  | none =>
    cases e2 : whK c b (wh c b) ρ with
    | none => rfl
    | some r => rw [h2 r e2] at e; cases e
theorem exec_while {c : E} {b : Ss} : exec P C (.while_ c b) mu ρ = bindF (ev P C c ρ) fun v ρ1 => onT (truth v.fz) fun t => brB t (tF (execs P C b mu ρ1) fun ρ2 => exec P C (.while_ c b) mu ρ2) (some (.nx ρ1)) := by
  have e : ∀ ρ, exec P C (.while_ c b) mu ρ = wh (fun ρ => tst (ev P C c ρ)) (fun ρ => execs P C b mu ρ) ρ := fun ρ => by rw [exec]
  rw [e, wh_step]
  unfold whK tst
  dsimp only
  cases ev P C c ρ with
  | none => rfl
  | some r =>
    cases r with
    | ex x => rfl
    | ok v ρ1 =>
      simp only [bindR_ok, bindF_ok]
      cases truth v.fz with
      | none => rfl
      | some t =>
        cases t with
        | false => rfl
        | true =>
          dsimp only [onT, brB]
          cases execs P C b mu ρ1 with
          | none => rfl
          | some q =>
            cases q with
            | nx ρ2 => dsimp only [tF]; exact (e ρ2).symm
            | _ => rfl
def forK (P : Prog) (C : Orc) (t : Tg) (b : Ss) (mu : List Nat) (src : Src) : List D → EnvD → Option F := forL src.2 (fun x ρ => match asgT (src.2.toList ++ mu) t (.fr x) ρ with
      | none => none
      | some ρ' => execs P C b (src.2.toList ++ mu) ρ')
theorem exec_for {t : Tg} {it : It} {b : Ss} : exec P C (.for_ t it b) mu ρ = bindF (evI P C it ρ) fun src ρ1 => forK P C t b mu src src.1 ρ1 := by rw [exec]; rfl
theorem for_nil {t : Tg} {b : Ss} {src : Src} : forK P C t b mu src [] ρ = some (.nx ρ) := rfl
theorem forL_cons {body : D → EnvD → Option F} {x : D} {r : List D} : forL none body (x :: r) ρ = tF (body x ρ) fun ρ2 => forL none body r ρ2 := by
  rw [forL]
  cases body x ρ with
  | none => rfl
  | some q =>
    cases q with
    | nx ρ2 => dsimp only [tF]; exact if_pos trivial
    | _ => rfl
theorem for_cons {t : Tg} {b : Ss} {xs : List D} {x : D} {r : List D} : forK P C t b mu (xs, none) (x :: r) ρ = bO (asgT mu t (.fr x) ρ) fun ρ' => tF (execs P C b mu ρ') fun ρ2 => forK P C t b mu (xs, none) r ρ2 := by
  unfold forK
  rw [forL_cons]
  show tF (match asgT mu t (.fr x) ρ with | none => none | some ρ' => execs P C b mu ρ') _ = _
  cases asgT mu t (.fr x) ρ <;> rfl
theorem evI_rng {es : Es} {n : Int} {ρ1 : EnvD} (h : evl P C es ρ = some (.ok [.d (.int n)] ρ1)) (hn : rngOk n = true) : evI P C (.rng es) ρ = some (.ok (rngD 0 n.toNat, none) ρ1) := by
  rw [evI, h]
  simp only [bindR_ok, views, view, if_pos hn]
def rngK (ρ : EnvD) : Option (List D) → Option (R Src)
  | some [.int n] => if rngOk n = true then some (.ok (rngD 0 n.toNat, none) ρ) else none
  | some [.int a, .int b] => if (rngOk a && rngOk b) = true then some (.ok (rngD a (b - a).toNat, none) ρ) else none
  | _ => none
theorem evI_rng_ {es : Es} : evI P C (.rng es) ρ = bindR (evl P C es ρ) fun ods ρ1 => rngK ρ1 (views ρ1 ods) := by
  rw [evI]
  unfold rngK
  rfl
theorem rngK_1 {n : Int} : rngK ρ (some [.int n]) = if rngOk n = true then some (.ok (rngD 0 n.toNat, none) ρ) else none := rfl
theorem rngK_2 {a b : Int} : rngK ρ (some [.int a, .int b]) = if (rngOk a && rngOk b) = true then some (.ok (rngD a (b - a).toNat, none) ρ) else none := rfl
theorem evI_seq {e : E} (h : e.val = true) : evI P C (.seq e) ρ = bindR (ev P C e ρ) fun v ρ1 => bO (itemsOf v.fz) fun xs => some (.ok (xs, none) ρ1) := by
  have e2 : (fun (v : EV) (ρ1 : EnvD) => match itemsOf v.fz with | some xs => some (R.ok ((xs, none) : Src) ρ1) | none => none) = fun v ρ1 => bO (itemsOf v.fz) fun xs => some (.ok (xs, none) ρ1) := by
    funext v ρ1
    cases itemsOf v.fz <;> rfl
  rw [← e2]
  cases e <;> first | (rw [evI] <;> first | rfl | (intro i z; cases z)) | cases h
theorem vl_cst {d : D} {es : Es} : evl P C (.cons (.cst d) es) ρ = bindR (ev P C (.cst d) ρ) fun v ρ1 => bindR (evl P C es ρ1) fun ods ρ2 => some (.ok (.d v.fz :: ods) ρ2) := vl_cons rfl
theorem vl_var {i : Nat} {es : Es} : evl P C (.cons (.var i) es) ρ = bindR (ev P C (.var i) ρ) fun v ρ1 => bindR (evl P C es ρ1) fun ods ρ2 => some (.ok (.d v.fz :: ods) ρ2) := vl_cons rfl
theorem vl_own {i : Nat} {es : Es} : evl P C (.cons (.own i) es) ρ = bindR (ev P C (.own i) ρ) fun v ρ1 => bindR (evl P C es ρ1) fun ods ρ2 => some (.ok (.d v.fz :: ods) ρ2) := vl_cons rfl
theorem vl_glob {g : Nat} {es : Es} : evl P C (.cons (.glob g) es) ρ = bindR (ev P C (.glob g) ρ) fun v ρ1 => bindR (evl P C es ρ1) fun ods ρ2 => some (.ok (.d v.fz :: ods) ρ2) := vl_cons rfl
theorem vl_op {o : Op} {xs : Es} {es : Es} : evl P C (.cons (.op o xs) es) ρ = bindR (ev P C (.op o xs) ρ) fun v ρ1 => bindR (evl P C es ρ1) fun ods ρ2 => some (.ok (.d v.fz :: ods) ρ2) := vl_cons rfl
theorem vl_and {a b : E} {es : Es} : evl P C (.cons (.and a b) es) ρ = bindR (ev P C (.and a b) ρ) fun v ρ1 => bindR (evl P C es ρ1) fun ods ρ2 => some (.ok (.d v.fz :: ods) ρ2) := vl_cons rfl
theorem vl_or {a b : E} {es : Es} : evl P C (.cons (.or a b) es) ρ = bindR (ev P C (.or a b) ρ) fun v ρ1 => bindR (evl P C es ρ1) fun ods ρ2 => some (.ok (.d v.fz :: ods) ρ2) := vl_cons rfl
theorem vl_not {a : E} {es : Es} : evl P C (.cons (.not a) es) ρ = bindR (ev P C (.not a) ρ) fun v ρ1 => bindR (evl P C es ρ1) fun ods ρ2 => some (.ok (.d v.fz :: ods) ρ2) := vl_cons rfl
theorem vl_ife {c a b : E} {es : Es} : evl P C (.cons (.ife c a b) es) ρ = bindR (ev P C (.ife c a b) ρ) fun v ρ1 => bindR (evl P C es ρ1) fun ods ρ2 => some (.ok (.d v.fz :: ods) ρ2) := vl_cons rfl
theorem vl_call {f : Nat} {xs : Es} {es : Es} : evl P C (.cons (.call f xs) es) ρ = bindR (ev P C (.call f xs) ρ) fun v ρ1 => bindR (evl P C es ρ1) fun ods ρ2 => some (.ok (.d v.fz :: ods) ρ2) := vl_cons rfl
theorem vl_new {c : Nat} {xs : Es} {es : Es} : evl P C (.cons (.new c xs) es) ρ = bindR (ev P C (.new c xs) ρ) fun v ρ1 => bindR (evl P C es ρ1) fun ods ρ2 => some (.ok (.d v.fz :: ods) ρ2) := vl_cons rfl
theorem vl_meth {m : Nat} {o : E} {xs : Es} {es : Es} : evl P C (.cons (.meth m o xs) es) ρ = bindR (ev P C (.meth m o xs) ρ) fun v ρ1 => bindR (evl P C es ρ1) fun ods ρ2 => some (.ok (.d v.fz :: ods) ρ2) := vl_cons rfl
theorem vl_chain {o o2 : Op} {a b c : E} {es : Es} : evl P C (.cons (.chain o o2 a b c) es) ρ = bindR (ev P C (.chain o o2 a b c) ρ) fun v ρ1 => bindR (evl P C es ρ1) fun ods ρ2 => some (.ok (.d v.fz :: ods) ρ2) := vl_cons rfl
theorem vl_lc {w : List Nat} {t : Tg} {it : It} {cs : Es} {e : E} {es : Es} : evl P C (.cons (.lc w t it cs e) es) ρ = bindR (ev P C (.lc w t it cs e) ρ) fun v ρ1 => bindR (evl P C es ρ1) fun ods ρ2 => some (.ok (.d v.fz :: ods) ρ2) := vl_cons rfl
theorem vl_lt {w : List Nat} {t : Tg} {it : It} {e : E} {es : Es} : evl P C (.cons (.lt w t it e) es) ρ = bindR (ev P C (.lt w t it e) ρ) fun v ρ1 => bindR (evl P C es ρ1) fun ods ρ2 => some (.ok (.d v.fz :: ods) ρ2) := vl_cons rfl
theorem vl_ix2 {i : Nat} {x y : E} {es : Es} : evl P C (.cons (.ix2 i x y) es) ρ = bindR (ev P C (.ix2 i x y) ρ) fun v ρ1 => bindR (evl P C es ρ1) fun ods ρ2 => some (.ok (.d v.fz :: ods) ρ2) := vl_cons rfl
theorem vl_pop {i : Nat} {xs : Es} {es : Es} : evl P C (.cons (.pop i xs) es) ρ = bindR (ev P C (.pop i xs) ρ) fun v ρ1 => bindR (evl P C es ρ1) fun ods ρ2 => some (.ok (.d v.fz :: ods) ρ2) := vl_cons rfl
theorem vi_cst {d : D} : evI P C (.seq (.cst d)) ρ = bindR (ev P C (.cst d) ρ) fun v ρ1 => bO (itemsOf v.fz) fun xs => some (.ok (xs, none) ρ1) := evI_seq rfl
theorem vi_var {i : Nat} : evI P C (.seq (.var i)) ρ = bindR (ev P C (.var i) ρ) fun v ρ1 => bO (itemsOf v.fz) fun xs => some (.ok (xs, none) ρ1) := evI_seq rfl
theorem vi_own {i : Nat} : evI P C (.seq (.own i)) ρ = bindR (ev P C (.own i) ρ) fun v ρ1 => bO (itemsOf v.fz) fun xs => some (.ok (xs, none) ρ1) := evI_seq rfl
theorem vi_glob {g : Nat} : evI P C (.seq (.glob g)) ρ = bindR (ev P C (.glob g) ρ) fun v ρ1 => bO (itemsOf v.fz) fun xs => some (.ok (xs, none) ρ1) := evI_seq rfl
theorem vi_op {o : Op} {xs : Es} : evI P C (.seq (.op o xs)) ρ = bindR (ev P C (.op o xs) ρ) fun v ρ1 => bO (itemsOf v.fz) fun xs => some (.ok (xs, none) ρ1) := evI_seq rfl
theorem vi_and {a b : E} : evI P C (.seq (.and a b)) ρ = bindR (ev P C (.and a b) ρ) fun v ρ1 => bO (itemsOf v.fz) fun xs => some (.ok (xs, none) ρ1) := evI_seq rfl
theorem vi_or {a b : E} : evI P C (.seq (.or a b)) ρ = bindR (ev P C (.or a b) ρ) fun v ρ1 => bO (itemsOf v.fz) fun xs => some (.ok (xs, none) ρ1) := evI_seq rfl
theorem vi_not {a : E} : evI P C (.seq (.not a)) ρ = bindR (ev P C (.not a) ρ) fun v ρ1 => bO (itemsOf v.fz) fun xs => some (.ok (xs, none) ρ1) := evI_seq rfl
theorem vi_ife {c a b : E} : evI P C (.seq (.ife c a b)) ρ = bindR (ev P C (.ife c a b) ρ) fun v ρ1 => bO (itemsOf v.fz) fun xs => some (.ok (xs, none) ρ1) := evI_seq rfl
theorem vi_call {f : Nat} {xs : Es} : evI P C (.seq (.call f xs)) ρ = bindR (ev P C (.call f xs) ρ) fun v ρ1 => bO (itemsOf v.fz) fun xs => some (.ok (xs, none) ρ1) := evI_seq rfl
theorem vi_new {c : Nat} {xs : Es} : evI P C (.seq (.new c xs)) ρ = bindR (ev P C (.new c xs) ρ) fun v ρ1 => bO (itemsOf v.fz) fun xs => some (.ok (xs, none) ρ1) := evI_seq rfl
theorem vi_meth {m : Nat} {o : E} {xs : Es} : evI P C (.seq (.meth m o xs)) ρ = bindR (ev P C (.meth m o xs) ρ) fun v ρ1 => bO (itemsOf v.fz) fun xs => some (.ok (xs, none) ρ1) := evI_seq rfl
theorem vi_chain {o o2 : Op} {a b c : E} : evI P C (.seq (.chain o o2 a b c)) ρ = bindR (ev P C (.chain o o2 a b c) ρ) fun v ρ1 => bO (itemsOf v.fz) fun xs => some (.ok (xs, none) ρ1) := evI_seq rfl
theorem vi_lc {w : List Nat} {t : Tg} {it : It} {cs : Es} {e : E} : evI P C (.seq (.lc w t it cs e)) ρ = bindR (ev P C (.lc w t it cs e) ρ) fun v ρ1 => bO (itemsOf v.fz) fun xs => some (.ok (xs, none) ρ1) := evI_seq rfl
theorem vi_lt {w : List Nat} {t : Tg} {it : It} {e : E} : evI P C (.seq (.lt w t it e)) ρ = bindR (ev P C (.lt w t it e) ρ) fun v ρ1 => bO (itemsOf v.fz) fun xs => some (.ok (xs, none) ρ1) := evI_seq rfl
theorem vi_ix2 {i : Nat} {x y : E} : evI P C (.seq (.ix2 i x y)) ρ = bindR (ev P C (.ix2 i x y) ρ) fun v ρ1 => bO (itemsOf v.fz) fun xs => some (.ok (xs, none) ρ1) := evI_seq rfl
theorem vi_pop {i : Nat} {xs : Es} : evI P C (.seq (.pop i xs)) ρ = bindR (ev P C (.pop i xs) ρ) fun v ρ1 => bO (itemsOf v.fz) fun xs => some (.ok (xs, none) ρ1) := evI_seq rfl
def tryK (P : Prog) (hs : Hs) (ρ : EnvD) : Option F → Option F
  | some (.ex x) => handle P x ρ hs
  | r => r
theorem exec_try {b : Ss} {hs : Hs} : exec P C (.try_ b hs) mu ρ = tryK P hs ρ (execs P C b mu ρ) := by
  rw [exec]
  cases execs P C b mu ρ with
  | none => rfl
  | some r => cases r <;> rfl
theorem tryK_ex {hs : Hs} {x : Exn} : tryK P hs ρ (some (.ex x)) = handle P x ρ hs := rfl
theorem tryK_nx {hs : Hs} {ρ1 : EnvD} : tryK P hs ρ (some (.nx ρ1)) = some (.nx ρ1) := rfl
theorem tryK_rt {hs : Hs} {ρ1 : EnvD} {e : EV} : tryK P hs ρ (some (.rt e ρ1)) = some (.rt e ρ1) := rfl
theorem hd_ret {c c' : Nat} {d : D} {u : Su} {hs : Hs} (h : P.sub c' c = some true) : handle P (.mk c' d) ρ (.ret c u hs) = bO (suE P u (.mk c' d)) fun v => some (.rt (.fr v) []) := by
  unfold handle
  dsimp only
  rw [h]
  dsimp only
  cases suE P u (.mk c' d) <;> rfl
theorem exec_raise {c : Nat} {d : D} (h : atom d = true) : exec P C (.raise c (.cons (.cst d) .nil)) mu ρ = some (.ex (.mk c d)) := by
  rw [exec, vl_cons rfl, ve_cst h]
  simp only [bindR_ok, vl_nil, bindF_ok, views, view, EV.fz]
  rw [if_pos h]
/-! ### the same, with the continuations shut -/
theorem bindR_ok_ {a : α} {ρ : EnvD} {k : α → EnvD → Option (R β)} : bR (some (.ok a ρ)) k = k a ρ := rfl
theorem bindR_ex_ {x : Exn} {k : α → EnvD → Option (R β)} : bR (some (.ex x)) k = some (.ex x) := rfl
theorem bindF_ok_ {a : α} {ρ : EnvD} {k : α → EnvD → Option F} : bF (some (.ok a ρ)) k = k a ρ := rfl
theorem bindF_ex_ {x : Exn} {k : α → EnvD → Option F} : bF (some (.ex x)) k = some (.ex x) := rfl
theorem ve_op_ {o : Op} {es : Es} : ev P C (.op o es) ρ = bR (evl P C es ρ) fun ods ρ1 => if (o.keeps && !ods.all OD.isD) = true then none else bO (views ρ1 ods) fun ds => lift (opS P (orc C o ods) o ds) ρ1 := ve_op
theorem ve_and_ {a b : E} : ev P C (.and a b) ρ = bR (ev P C a ρ) fun v ρ1 => brT (truth v.fz) (ev P C b ρ1) (some (.ok (.fr v.fz) ρ1)) := ve_and
theorem ve_or_ {a b : E} : ev P C (.or a b) ρ = bR (ev P C a ρ) fun v ρ1 => brT (truth v.fz) (some (.ok (.fr v.fz) ρ1)) (ev P C b ρ1) := ve_or
theorem ve_not_ {a : E} : ev P C (.not a) ρ = bR (ev P C a ρ) fun v ρ1 => onT (truth v.fz) fun b => some (.ok (.fr (.bl (!b))) ρ1) := ve_not
theorem ve_ife_ {c a b : E} : ev P C (.ife c a b) ρ = bR (ev P C c ρ) fun v ρ1 => brT (truth v.fz) (ev P C a ρ1) (ev P C b ρ1) := ve_ife
theorem ve_call_ {f : Nat} {es : Es} : ev P C (.call f es) ρ = bR (evl P C es ρ) fun ods ρ1 => apply P C f ods ρ1 := ve_call
theorem ve_new_ {c : Nat} {es : Es} : ev P C (.new c es) ρ = bR (evl P C es ρ) fun ods ρ1 => make P C c ods ρ1 := ve_new
theorem ve_meth_ {m : Nat} {o : E} {es : Es} : ev P C (.meth m o es) ρ = bR (ev P C o ρ) fun v ρ1 => methK P C m es ρ1 v.fz := ve_meth
theorem methK_ins_ {m c : Nat} {ns : List Nat} {xs : List D} {es : Es} : methK P C m es ρ (.ins c ns xs) = bO (P.meth c m) fun f => bR (evl P C es ρ) fun ods ρ2 => apply P C f (.d (.ins c ns xs) :: ods) ρ2 := methK_ins
theorem vl_bor_ {i : Nat} {es : Es} : evl P C (.cons (.bor i) es) ρ = bO (get ρ i) fun _ => bR (evl P C es ρ) fun ods ρ1 => some (.ok (.b i :: ods) ρ1) := vl_bor
theorem vl_mut_ {i : Nat} {es : Es} : evl P C (.cons (.mut i) es) ρ = bO (get ρ i) fun _ => bR (evl P C es ρ) fun ods ρ1 => some (.ok (.m i :: ods) ρ1) := vl_mut
theorem vl_cons_ {e : E} {es : Es} (h : e.val = true) : evl P C (.cons e es) ρ = bR (ev P C e ρ) fun v ρ1 => bR (evl P C es ρ1) fun ods ρ2 => some (.ok (.d v.fz :: ods) ρ2) := vl_cons h
theorem exec_asg_ {t : Tg} {e : E} : exec P C (.asg t e) mu ρ = bF (ev P C e ρ) fun v ρ1 => bO (asgT mu t v ρ1) fun ρ2 => some (.nx ρ2) := exec_asg
theorem exec_par_ {i j : Nat} {a b : E} : exec P C (.par i j a b) mu ρ = bF (ev P C a ρ) fun v ρ1 => bF (ev P C b ρ1) fun w ρ2 => if (mu.contains i || mu.contains j || i == j) = true then none else some (.nx ((ρ2.set i (some v)).set j (some w))) := exec_par
theorem exec_fld_ {i f : Nat} {e : E} : exec P C (.fld i f e) mu ρ = bF (ev P C e ρ) fun v ρ1 => fldE P ρ1 i f v.fz := exec_fld
theorem exec_expr_ {e : E} : exec P C (.expr e) mu ρ = bF (ev P C e ρ) fun _ ρ1 => some (.nx ρ1) := exec_expr
theorem exec_ret_ {e : E} : exec P C (.ret e) mu ρ = bF (ev P C e ρ) fun v ρ1 => some (.rt v ρ1) := exec_ret
theorem exec_ifs_ {c : E} {a b : Ss} : exec P C (.ifs c a b) mu ρ = bF (ev P C c ρ) fun v ρ1 => onT (truth v.fz) fun t => brB t (execs P C a mu ρ1) (execs P C b mu ρ1) := exec_ifs
theorem exec_sub_ {i : Nat} {x e : E} : exec P C (.sub i x e) mu ρ = bF (ev P C e ρ) fun v ρ1 => if owns (get ρ1 i) = true then bF (ev P C x ρ1) fun k ρ2 => setE ρ2 i v.fz k else none := exec_sub
theorem exec_app_ {i : Nat} {e : E} : exec P C (.app i e) mu ρ = if owns (get ρ i) = true then bF (ev P C e ρ) fun v ρ1 => appE ρ1 i v.fz else none := exec_app
theorem augK_int_ {i : Nat} {o : Op} {e : E} {a : Int} : augK P C i o e mu ρ (some (.fr (.int a))) = bF (ev P C e ρ) fun v ρ1 => if mu.contains i = true then none else augE ρ1 i a o v.fz := augK_int
theorem exec_for_ {t : Tg} {it : It} {b : Ss} : exec P C (.for_ t it b) mu ρ = bF (evI P C it ρ) fun src ρ1 => forK P C t b mu src src.1 ρ1 := exec_for
theorem evI_rng__ {es : Es} : evI P C (.rng es) ρ = bR (evl P C es ρ) fun ods ρ1 => rngK ρ1 (views ρ1 ods) := evI_rng_
theorem vl_cst_ {d : D} {es : Es} : evl P C (.cons (.cst d) es) ρ = bR (ev P C (.cst d) ρ) fun v ρ1 => bR (evl P C es ρ1) fun ods ρ2 => some (.ok (.d v.fz :: ods) ρ2) := vl_cst
theorem vl_var_ {i : Nat} {es : Es} : evl P C (.cons (.var i) es) ρ = bR (ev P C (.var i) ρ) fun v ρ1 => bR (evl P C es ρ1) fun ods ρ2 => some (.ok (.d v.fz :: ods) ρ2) := vl_var
theorem vl_own_ {i : Nat} {es : Es} : evl P C (.cons (.own i) es) ρ = bR (ev P C (.own i) ρ) fun v ρ1 => bR (evl P C es ρ1) fun ods ρ2 => some (.ok (.d v.fz :: ods) ρ2) := vl_own
theorem vl_glob_ {g : Nat} {es : Es} : evl P C (.cons (.glob g) es) ρ = bR (ev P C (.glob g) ρ) fun v ρ1 => bR (evl P C es ρ1) fun ods ρ2 => some (.ok (.d v.fz :: ods) ρ2) := vl_glob
theorem vl_op_ {o : Op} {xs : Es} {es : Es} : evl P C (.cons (.op o xs) es) ρ = bR (ev P C (.op o xs) ρ) fun v ρ1 => bR (evl P C es ρ1) fun ods ρ2 => some (.ok (.d v.fz :: ods) ρ2) := vl_op
theorem vl_and_ {a b : E} {es : Es} : evl P C (.cons (.and a b) es) ρ = bR (ev P C (.and a b) ρ) fun v ρ1 => bR (evl P C es ρ1) fun ods ρ2 => some (.ok (.d v.fz :: ods) ρ2) := vl_and
theorem vl_or_ {a b : E} {es : Es} : evl P C (.cons (.or a b) es) ρ = bR (ev P C (.or a b) ρ) fun v ρ1 => bR (evl P C es ρ1) fun ods ρ2 => some (.ok (.d v.fz :: ods) ρ2) := vl_or
theorem vl_not_ {a : E} {es : Es} : evl P C (.cons (.not a) es) ρ = bR (ev P C (.not a) ρ) fun v ρ1 => bR (evl P C es ρ1) fun ods ρ2 => some (.ok (.d v.fz :: ods) ρ2) := vl_not
theorem vl_ife_ {c a b : E} {es : Es} : evl P C (.cons (.ife c a b) es) ρ = bR (ev P C (.ife c a b) ρ) fun v ρ1 => bR (evl P C es ρ1) fun ods ρ2 => some (.ok (.d v.fz :: ods) ρ2) := vl_ife
theorem vl_call_ {f : Nat} {xs : Es} {es : Es} : evl P C (.cons (.call f xs) es) ρ = bR (ev P C (.call f xs) ρ) fun v ρ1 => bR (evl P C es ρ1) fun ods ρ2 => some (.ok (.d v.fz :: ods) ρ2) := vl_call
theorem vl_new_ {c : Nat} {xs : Es} {es : Es} : evl P C (.cons (.new c xs) es) ρ = bR (ev P C (.new c xs) ρ) fun v ρ1 => bR (evl P C es ρ1) fun ods ρ2 => some (.ok (.d v.fz :: ods) ρ2) := vl_new
theorem vl_meth_ {m : Nat} {o : E} {xs : Es} {es : Es} : evl P C (.cons (.meth m o xs) es) ρ = bR (ev P C (.meth m o xs) ρ) fun v ρ1 => bR (evl P C es ρ1) fun ods ρ2 => some (.ok (.d v.fz :: ods) ρ2) := vl_meth
theorem vl_chain_ {o o2 : Op} {a b c : E} {es : Es} : evl P C (.cons (.chain o o2 a b c) es) ρ = bR (ev P C (.chain o o2 a b c) ρ) fun v ρ1 => bR (evl P C es ρ1) fun ods ρ2 => some (.ok (.d v.fz :: ods) ρ2) := vl_chain
theorem vl_lc_ {w : List Nat} {t : Tg} {it : It} {cs : Es} {e : E} {es : Es} : evl P C (.cons (.lc w t it cs e) es) ρ = bR (ev P C (.lc w t it cs e) ρ) fun v ρ1 => bR (evl P C es ρ1) fun ods ρ2 => some (.ok (.d v.fz :: ods) ρ2) := vl_lc
theorem vl_pop_ {i : Nat} {xs : Es} {es : Es} : evl P C (.cons (.pop i xs) es) ρ = bR (ev P C (.pop i xs) ρ) fun v ρ1 => bR (evl P C es ρ1) fun ods ρ2 => some (.ok (.d v.fz :: ods) ρ2) := vl_pop
theorem vi_cst_ {d : D} : evI P C (.seq (.cst d)) ρ = bR (ev P C (.cst d) ρ) fun v ρ1 => bO (itemsOf v.fz) fun xs => some (.ok (xs, none) ρ1) := vi_cst
theorem vi_var_ {i : Nat} : evI P C (.seq (.var i)) ρ = bR (ev P C (.var i) ρ) fun v ρ1 => bO (itemsOf v.fz) fun xs => some (.ok (xs, none) ρ1) := vi_var
theorem vi_own_ {i : Nat} : evI P C (.seq (.own i)) ρ = bR (ev P C (.own i) ρ) fun v ρ1 => bO (itemsOf v.fz) fun xs => some (.ok (xs, none) ρ1) := vi_own
theorem vi_glob_ {g : Nat} : evI P C (.seq (.glob g)) ρ = bR (ev P C (.glob g) ρ) fun v ρ1 => bO (itemsOf v.fz) fun xs => some (.ok (xs, none) ρ1) := vi_glob
theorem vi_op_ {o : Op} {xs : Es} : evI P C (.seq (.op o xs)) ρ = bR (ev P C (.op o xs) ρ) fun v ρ1 => bO (itemsOf v.fz) fun xs => some (.ok (xs, none) ρ1) := vi_op
theorem vi_and_ {a b : E} : evI P C (.seq (.and a b)) ρ = bR (ev P C (.and a b) ρ) fun v ρ1 => bO (itemsOf v.fz) fun xs => some (.ok (xs, none) ρ1) := vi_and
theorem vi_or_ {a b : E} : evI P C (.seq (.or a b)) ρ = bR (ev P C (.or a b) ρ) fun v ρ1 => bO (itemsOf v.fz) fun xs => some (.ok (xs, none) ρ1) := vi_or
theorem vi_not_ {a : E} : evI P C (.seq (.not a)) ρ = bR (ev P C (.not a) ρ) fun v ρ1 => bO (itemsOf v.fz) fun xs => some (.ok (xs, none) ρ1) := vi_not
theorem vi_ife_ {c a b : E} : evI P C (.seq (.ife c a b)) ρ = bR (ev P C (.ife c a b) ρ) fun v ρ1 => bO (itemsOf v.fz) fun xs => some (.ok (xs, none) ρ1) := vi_ife
theorem vi_call_ {f : Nat} {xs : Es} : evI P C (.seq (.call f xs)) ρ = bR (ev P C (.call f xs) ρ) fun v ρ1 => bO (itemsOf v.fz) fun xs => some (.ok (xs, none) ρ1) := vi_call
theorem vi_new_ {c : Nat} {xs : Es} : evI P C (.seq (.new c xs)) ρ = bR (ev P C (.new c xs) ρ) fun v ρ1 => bO (itemsOf v.fz) fun xs => some (.ok (xs, none) ρ1) := vi_new
theorem vi_meth_ {m : Nat} {o : E} {xs : Es} : evI P C (.seq (.meth m o xs)) ρ = bR (ev P C (.meth m o xs) ρ) fun v ρ1 => bO (itemsOf v.fz) fun xs => some (.ok (xs, none) ρ1) := vi_meth
theorem vi_chain_ {o o2 : Op} {a b c : E} : evI P C (.seq (.chain o o2 a b c)) ρ = bR (ev P C (.chain o o2 a b c) ρ) fun v ρ1 => bO (itemsOf v.fz) fun xs => some (.ok (xs, none) ρ1) := vi_chain
theorem vi_lc_ {w : List Nat} {t : Tg} {it : It} {cs : Es} {e : E} : evI P C (.seq (.lc w t it cs e)) ρ = bR (ev P C (.lc w t it cs e) ρ) fun v ρ1 => bO (itemsOf v.fz) fun xs => some (.ok (xs, none) ρ1) := vi_lc
theorem vi_pop_ {i : Nat} {xs : Es} : evI P C (.seq (.pop i xs)) ρ = bR (ev P C (.pop i xs) ρ) fun v ρ1 => bO (itemsOf v.fz) fun xs => some (.ok (xs, none) ρ1) := vi_pop
theorem exec_while_ {c : E} {b : Ss} : exec P C (.while_ c b) mu ρ = bF (ev P C c ρ) fun v ρ1 => onT (truth v.fz) fun t => brB t (tF (execs P C b mu ρ1) fun ρ2 => exec P C (.while_ c b) mu ρ2) (some (.nx ρ1)) := exec_while
/-! ### operations -/
section
variable {a b c : D}
theorem o_add : opS P C .add [a, b] = addD P C a b := rfl
theorem o_sub : opS P C .sub [a, b] = subD P C a b := rfl
theorem o_mul : opS P C .mul [a, b] = mulD P C a b := rfl
theorem o_fdiv : opS P C .fdiv [a, b] = fdivD a b := rfl
theorem o_mod : opS P C .mod [a, b] = modD a b := rfl
theorem o_pow : opS P C .pow [a, b] = powD a b := rfl
theorem o_neg : opS P C .neg [a] = negD P C a := rfl
theorem o_eq : opS P C .eq [a, b] = boolA (eqD P C a b) := rfl
theorem o_ne : opS P C .ne [a, b] = boolA ((eqD P C a b).map not) := rfl
theorem o_lt : opS P C .lt [a, b] = cmpD (fun i j => decide (i < j)) a b := rfl
theorem o_le : opS P C .le [a, b] = cmpD (fun i j => decide (i ≤ j)) a b := rfl
theorem o_gt : opS P C .gt [a, b] = cmpD (fun i j => decide (j < i)) a b := rfl
theorem o_ge : opS P C .ge [a, b] = cmpD (fun i j => decide (j ≤ i)) a b := rfl
theorem o_is : opS P C .is [a, b] = boolA (isD a b) := rfl
theorem o_isnot : opS P C .isnot [a, b] = boolA ((isD a b).map not) := rfl
theorem o_isin : opS P C .isin [a, b] = boolA (inD a b) := rfl
theorem o_notin : opS P C .notin [a, b] = boolA ((inD a b).map not) := rfl
theorem o_idx : opS P C .idx [a, b] = idxD a b := rfl
theorem o_tup {xs : List D} (h : xs.length ≤ most) : opS P C .tup xs = some (.ok (.fr (.tup xs))) := by
  show (if xs.length ≤ most then valA (.tup xs) else none) = _
  rw [if_pos h]; rfl
theorem o_lst {xs : List D} (h : xs.length ≤ most) : opS P C .lst xs = some (.ok (.ow xs)) := by
  show (if xs.length ≤ most then _ else none) = _
  rw [if_pos h]
theorem o_attr {f : Nat} : opS P C (.attr f) [a] = attrD P f a := rfl
theorem o_len : opS P C .len [a] = lenD a := rfl
theorem o_abs : opS P C .abs [a] = absD a := rfl
theorem o_int : opS P C .int [a] = intD a := rfl
theorem o_tuple : opS P C .tuple [a] = tupleD a := rfl
theorem o_list : opS P C .list [a] = listD a := rfl
theorem o_any : opS P C .any [a] = boolsD (fun bs => bs.any id) a := rfl
theorem o_all : opS P C .all [a] = boolsD (fun bs => bs.all id) a := rfl
theorem o_sum : opS P C .sum [a] = sumD a := rfl
theorem o_gcd : opS P C .gcd [a, b] = int2D gcdI a b := rfl
theorem o_max : opS P C .max [a, b] = int2D (fun i j => if j > i then j else i) a b := rfl
theorem o_min : opS P C .min [a, b] = int2D (fun i j => if j < i then j else i) a b := rfl
theorem o_isa {ts : List Ty} : opS P C (.isa ts) [a] = boolA (isaD P a ts) := rfl
theorem o_sl11 {i j : Int} : opS P C (.slice true true) [a, .int i, .int j] = sliceD a (some i) (some j) := rfl
theorem o_sl10 {i : Int} : opS P C (.slice true false) [a, .int i] = sliceD a (some i) none := rfl
theorem o_sl01 {j : Int} : opS P C (.slice false true) [a, .int j] = sliceD a none (some j) := rfl
theorem boolA_s {b : Bool} : boolA (some b) = some (.ok (.fr (.bl b))) := rfl
theorem valA_s : valA a = some (.ok (.fr a)) := rfl
theorem lift_ok {e : EV} : lift (some (.ok e)) ρ = some (.ok e ρ) := rfl
theorem lift_ex {x : Exn} : lift (some (.ex x)) ρ = some (.ex x) := rfl
theorem add_i {i j : Int} : addD P C (.int i) (.int j) = some (.ok (.fr (.int (i + j)))) := rfl
theorem sub_i {i j : Int} : subD P C (.int i) (.int j) = some (.ok (.fr (.int (i - j)))) := rfl
theorem mul_i {i j : Int} (h : mulOk i j = true) : mulD P C (.int i) (.int j) = some (.ok (.fr (.int (i * j)))) := by
  show (if mulOk i j then _ else none) = _
  rw [if_pos h]; rfl
theorem fdiv_i {i j : Int} (h : divOk j = true) : fdivD (.int i) (.int j) = some (.ok (.fr (.int (i.fdiv j)))) := by
  show (if divOk j then _ else none) = _
  rw [if_pos h]; rfl
theorem mod_i {i j : Int} (h : j ≠ 0) : modD (.int i) (.int j) = some (.ok (.fr (.int (i.fmod j)))) := by
  show (if j ≠ 0 then _ else none) = _
  rw [if_pos h]; rfl
theorem neg_i {i : Int} : negD P C (.int i) = some (.ok (.fr (.int (-i)))) := rfl
theorem cmp_i {f : Int → Int → Bool} {i j : Int} : cmpD f (.int i) (.int j) = some (.ok (.fr (.bl (f i j)))) := rfl
theorem int2_i {f : Int → Int → Int} {i j : Int} : int2D f (.int i) (.int j) = some (.ok (.fr (.int (f i j)))) := rfl
theorem abs_i {i : Int} : absD (.int i) = some (.ok (.fr (.int (if i < 0 then -i else i)))) := rfl
theorem int_i {i : Int} : intD (.int i) = some (.ok (.fr (.int i))) := rfl
theorem int_b {b : Bool} : intD (.bl b) = some (.ok (.fr (.int (if b then 1 else 0)))) := rfl
theorem len_l {xs : List D} : lenD (.lst xs) = some (.ok (.fr (.int xs.length))) := rfl
theorem len_t {xs : List D} : lenD (.tup xs) = some (.ok (.fr (.int xs.length))) := rfl
theorem len_z {xs : List D} : lenD (.frz xs) = some (.ok (.fr (.int xs.length))) := rfl
def itA : Option D → Option An
  | some d => some (.ok (.fr d))
  | none => none
def ixL (xs : List D) : Option Nat → Option An
  | some k => itA xs[k]?
  | none => none
theorem ix_l {xs : List D} {i : Int} : idxD (.lst xs) (.int i) = ixL xs (ixD xs.length i) := by
  show (ixD xs.length i).bind (fun k => xs[k]?.bind valA) = _
  cases ixD xs.length i with
  | none => rfl
  | some k =>
    show xs[k]?.bind valA = itA xs[k]?
    cases xs[k]? <;> rfl
theorem ix_t {xs : List D} {i : Int} : idxD (.tup xs) (.int i) = ixL xs (ixD xs.length i) := ix_l
theorem ix_z {xs : List D} {i : Int} : idxD (.frz xs) (.int i) = ixL xs (ixD xs.length i) := ix_l
theorem ixL_s {xs : List D} {k : Nat} : ixL xs (some k) = itA xs[k]? := rfl
theorem itA_s : itA (some a) = some (.ok (.fr a)) := rfl
theorem attr_i {f cc : Nat} {ns : List Nat} {xs : List D} (h : P.fld cc f = true) : attrD P f (.ins cc ns xs) = itA (lookF f ns xs) := by
  show (if P.fld cc f then (lookF f ns xs).bind valA else none) = _
  rw [if_pos h]
  cases lookF f ns xs <;> rfl
theorem eq_pl (h1 : pl 6 a = true) (h2 : pl 6 b = true) : eqD P C a b = some (PyData.eqv (pyD a) (pyD b)) := by
  unfold eqD
  rw [if_pos (by rw [h1, h2]; rfl)]
theorem eq_off {d e : D} (h : offD d e = true) : eqD P C d e = some false := by
  unfold eqD
  by_cases c : (pl 6 d && pl 6 e) = true
  · rw [if_pos c]
    cases d <;> cases e <;> first | (cases h; done) | rfl | simp [pyD, PyData.eqv]
  · rw [if_neg c, if_pos h]
theorem eq_int {i j : Int} : eqD P C (.int i) (.int j) = some (decide (i = j)) := eq_pl rfl rfl
theorem eq_tup2 {i j i2 j2 : Int} : eqD P C (.tup [.int i, .int j]) (.tup [.int i2, .int j2]) = some (decide (i = i2) && (decide (j = j2) && true)) := eq_pl rfl rfl
theorem eq_bl {i j : Bool} : eqD P C (.bl i) (.bl j) = some (i == j) := by
  refine (eq_pl rfl rfl).trans ?_
  cases i <;> cases j <;> rfl
theorem putFD_cs {f n : Nat} {v x : D} {ns : List Nat} {xs : List D} : putFD f v (n :: ns) (x :: xs) = if n = f then (n :: ns, v :: xs) else ((n :: (putFD f v ns xs).1), (x :: (putFD f v ns xs).2)) := by rw [putFD]
theorem lookF_cons {f n : Nat} {x : D} {ns : List Nat} {xs : List D} : lookF f (n :: ns) (x :: xs) = if n = f then some x else lookF f ns xs := by rw [lookF]
def eqA : Option CR → Option Bool
  | some (.ret (.fr (.bl b)) []) => some b
  | _ => none
theorem eq_ins {cc f : Nat} {ns : List Nat} {xs : List D} (ho : eqOk P cc b = true) (hm : P.meth cc mEq = some f) : eqD P C (.ins cc ns xs) b = eqA (C f [.fr (.ins cc ns xs), .fr b]) := by
  unfold eqD
  rw [if_neg (by show ¬ ((false && pl 6 b) = true); simp)]
  dsimp only
  rw [if_pos ho, hm]
  rfl
theorem eqA_s {b : Bool} : eqA (some (.ret (.fr (.bl b)) [])) = some b := rfl
theorem orc_all {o : Op} {ods : List OD} (h : ods.all OD.isD = true) : orc C o ods = C := by
  unfold orc
  split
  · rfl
  · rfl
  · rw [if_pos h]
theorem k_add : Op.keeps .add = false := rfl
theorem k_sub : Op.keeps .sub = false := rfl
theorem k_mul : Op.keeps .mul = false := rfl
theorem k_fdiv : Op.keeps .fdiv = false := rfl
theorem k_mod : Op.keeps .mod = false := rfl
theorem k_pow : Op.keeps .pow = false := rfl
theorem k_neg : Op.keeps .neg = false := rfl
theorem k_eq : Op.keeps .eq = false := rfl
theorem k_ne : Op.keeps .ne = false := rfl
theorem k_lt : Op.keeps .lt = false := rfl
theorem k_le : Op.keeps .le = false := rfl
theorem k_gt : Op.keeps .gt = false := rfl
theorem k_ge : Op.keeps .ge = false := rfl
theorem k_isin : Op.keeps .isin = false := rfl
theorem k_notin : Op.keeps .notin = false := rfl
theorem k_is : Op.keeps .is = false := rfl
theorem k_isnot : Op.keeps .isnot = false := rfl
theorem k_idx : Op.keeps .idx = false := rfl
theorem k_len : Op.keeps .len = false := rfl
theorem k_abs : Op.keeps .abs = false := rfl
theorem k_int : Op.keeps .int = false := rfl
theorem k_str : Op.keeps .str = false := rfl
theorem k_tuple : Op.keeps .tuple = false := rfl
theorem k_list : Op.keeps .list = false := rfl
theorem k_min : Op.keeps .min = false := rfl
theorem k_max : Op.keeps .max = false := rfl
theorem k_sum : Op.keeps .sum = false := rfl
theorem k_any : Op.keeps .any = false := rfl
theorem k_all : Op.keeps .all = false := rfl
theorem k_gcd : Op.keeps .gcd = false := rfl
theorem k_slice {a b : Bool} : Op.keeps (.slice a b) = false := rfl
theorem k_attr {f : Nat} : Op.keeps (.attr f) = false := rfl
theorem k_isa {ts : List Ty} : Op.keeps (.isa ts) = false := rfl
theorem k_tup : Op.keeps .tup = true := rfl
theorem k_lst : Op.keeps .lst = true := rfl
theorem orc0 {o : Op} : orc C o [] = C := orc_all rfl
theorem orc1 {o : Op} {x : D} : orc C o [.d x] = C := orc_all rfl
theorem orc2 {o : Op} {x y : D} : orc C o [.d x, .d y] = C := orc_all rfl
theorem orc3 {o : Op} {x y z : D} : orc C o [.d x, .d y, .d z] = C := orc_all rfl
theorem o_lst0 : opS P C .lst [] = some (.ok (.ow [])) := o_lst (Nat.le_of_ble_eq_true rfl)
theorem o_tup1 {x0 : D} : opS P C .tup [x0] = some (.ok (.fr (.tup [x0]))) := o_tup (Nat.le_of_ble_eq_true rfl)
theorem o_lst1 {x0 : D} : opS P C .lst [x0] = some (.ok (.ow [x0])) := o_lst (Nat.le_of_ble_eq_true rfl)
theorem o_tup2 {x0 x1 : D} : opS P C .tup [x0, x1] = some (.ok (.fr (.tup [x0, x1]))) := o_tup (Nat.le_of_ble_eq_true rfl)
theorem o_lst2 {x0 x1 : D} : opS P C .lst [x0, x1] = some (.ok (.ow [x0, x1])) := o_lst (Nat.le_of_ble_eq_true rfl)
theorem o_tup3 {x0 x1 x2 : D} : opS P C .tup [x0, x1, x2] = some (.ok (.fr (.tup [x0, x1, x2]))) := o_tup (Nat.le_of_ble_eq_true rfl)
theorem o_lst3 {x0 x1 x2 : D} : opS P C .lst [x0, x1, x2] = some (.ok (.ow [x0, x1, x2])) := o_lst (Nat.le_of_ble_eq_true rfl)
theorem o_tup4 {x0 x1 x2 x3 : D} : opS P C .tup [x0, x1, x2, x3] = some (.ok (.fr (.tup [x0, x1, x2, x3]))) := o_tup (Nat.le_of_ble_eq_true rfl)
theorem o_lst4 {x0 x1 x2 x3 : D} : opS P C .lst [x0, x1, x2, x3] = some (.ok (.ow [x0, x1, x2, x3])) := o_lst (Nat.le_of_ble_eq_true rfl)
theorem o_tup5 {x0 x1 x2 x3 x4 : D} : opS P C .tup [x0, x1, x2, x3, x4] = some (.ok (.fr (.tup [x0, x1, x2, x3, x4]))) := o_tup (Nat.le_of_ble_eq_true rfl)
theorem o_lst5 {x0 x1 x2 x3 x4 : D} : opS P C .lst [x0, x1, x2, x3, x4] = some (.ok (.ow [x0, x1, x2, x3, x4])) := o_lst (Nat.le_of_ble_eq_true rfl)
theorem o_tup6 {x0 x1 x2 x3 x4 x5 : D} : opS P C .tup [x0, x1, x2, x3, x4, x5] = some (.ok (.fr (.tup [x0, x1, x2, x3, x4, x5]))) := o_tup (Nat.le_of_ble_eq_true rfl)
theorem o_lst6 {x0 x1 x2 x3 x4 x5 : D} : opS P C .lst [x0, x1, x2, x3, x4, x5] = some (.ok (.ow [x0, x1, x2, x3, x4, x5])) := o_lst (Nat.le_of_ble_eq_true rfl)
theorem o_tup7 {x0 x1 x2 x3 x4 x5 x6 : D} : opS P C .tup [x0, x1, x2, x3, x4, x5, x6] = some (.ok (.fr (.tup [x0, x1, x2, x3, x4, x5, x6]))) := o_tup (Nat.le_of_ble_eq_true rfl)
theorem o_lst7 {x0 x1 x2 x3 x4 x5 x6 : D} : opS P C .lst [x0, x1, x2, x3, x4, x5, x6] = some (.ok (.ow [x0, x1, x2, x3, x4, x5, x6])) := o_lst (Nat.le_of_ble_eq_true rfl)
theorem o_tup8 {x0 x1 x2 x3 x4 x5 x6 x7 : D} : opS P C .tup [x0, x1, x2, x3, x4, x5, x6, x7] = some (.ok (.fr (.tup [x0, x1, x2, x3, x4, x5, x6, x7]))) := o_tup (Nat.le_of_ble_eq_true rfl)
theorem o_lst8 {x0 x1 x2 x3 x4 x5 x6 x7 : D} : opS P C .lst [x0, x1, x2, x3, x4, x5, x6, x7] = some (.ok (.ow [x0, x1, x2, x3, x4, x5, x6, x7])) := o_lst (Nat.le_of_ble_eq_true rfl)
theorem o_tup9 {x0 x1 x2 x3 x4 x5 x6 x7 x8 : D} : opS P C .tup [x0, x1, x2, x3, x4, x5, x6, x7, x8] = some (.ok (.fr (.tup [x0, x1, x2, x3, x4, x5, x6, x7, x8]))) := o_tup (Nat.le_of_ble_eq_true rfl)
theorem o_lst9 {x0 x1 x2 x3 x4 x5 x6 x7 x8 : D} : opS P C .lst [x0, x1, x2, x3, x4, x5, x6, x7, x8] = some (.ok (.ow [x0, x1, x2, x3, x4, x5, x6, x7, x8])) := o_lst (Nat.le_of_ble_eq_true rfl)
theorem o_tup10 {x0 x1 x2 x3 x4 x5 x6 x7 x8 x9 : D} : opS P C .tup [x0, x1, x2, x3, x4, x5, x6, x7, x8, x9] = some (.ok (.fr (.tup [x0, x1, x2, x3, x4, x5, x6, x7, x8, x9]))) := o_tup (Nat.le_of_ble_eq_true rfl)
theorem o_lst10 {x0 x1 x2 x3 x4 x5 x6 x7 x8 x9 : D} : opS P C .lst [x0, x1, x2, x3, x4, x5, x6, x7, x8, x9] = some (.ok (.ow [x0, x1, x2, x3, x4, x5, x6, x7, x8, x9])) := o_lst (Nat.le_of_ble_eq_true rfl)
theorem o_tup11 {x0 x1 x2 x3 x4 x5 x6 x7 x8 x9 x10 : D} : opS P C .tup [x0, x1, x2, x3, x4, x5, x6, x7, x8, x9, x10] = some (.ok (.fr (.tup [x0, x1, x2, x3, x4, x5, x6, x7, x8, x9, x10]))) := o_tup (Nat.le_of_ble_eq_true rfl)
theorem o_lst11 {x0 x1 x2 x3 x4 x5 x6 x7 x8 x9 x10 : D} : opS P C .lst [x0, x1, x2, x3, x4, x5, x6, x7, x8, x9, x10] = some (.ok (.ow [x0, x1, x2, x3, x4, x5, x6, x7, x8, x9, x10])) := o_lst (Nat.le_of_ble_eq_true rfl)
theorem o_tup12 {x0 x1 x2 x3 x4 x5 x6 x7 x8 x9 x10 x11 : D} : opS P C .tup [x0, x1, x2, x3, x4, x5, x6, x7, x8, x9, x10, x11] = some (.ok (.fr (.tup [x0, x1, x2, x3, x4, x5, x6, x7, x8, x9, x10, x11]))) := o_tup (Nat.le_of_ble_eq_true rfl)
theorem o_lst12 {x0 x1 x2 x3 x4 x5 x6 x7 x8 x9 x10 x11 : D} : opS P C .lst [x0, x1, x2, x3, x4, x5, x6, x7, x8, x9, x10, x11] = some (.ok (.ow [x0, x1, x2, x3, x4, x5, x6, x7, x8, x9, x10, x11])) := o_lst (Nat.le_of_ble_eq_true rfl)
theorem ix_1_0 : ixD 1 0 = some 0 := rfl
theorem ix_1_m : ixD 1 (-1) = some 0 := rfl
theorem ix_2_0 : ixD 2 0 = some 0 := rfl
theorem ix_2_1 : ixD 2 1 = some 1 := rfl
theorem ix_2_m : ixD 2 (-1) = some 1 := rfl
theorem ix_3_0 : ixD 3 0 = some 0 := rfl
theorem ix_3_1 : ixD 3 1 = some 1 := rfl
theorem ix_3_2 : ixD 3 2 = some 2 := rfl
theorem ix_3_m : ixD 3 (-1) = some 2 := rfl
theorem ix_4_0 : ixD 4 0 = some 0 := rfl
theorem ix_4_1 : ixD 4 1 = some 1 := rfl
theorem ix_4_2 : ixD 4 2 = some 2 := rfl
theorem ix_4_3 : ixD 4 3 = some 3 := rfl
theorem ix_4_m : ixD 4 (-1) = some 3 := rfl
theorem ix_5_0 : ixD 5 0 = some 0 := rfl
theorem ix_5_1 : ixD 5 1 = some 1 := rfl
theorem ix_5_2 : ixD 5 2 = some 2 := rfl
theorem ix_5_3 : ixD 5 3 = some 3 := rfl
theorem ix_5_4 : ixD 5 4 = some 4 := rfl
theorem ix_5_m : ixD 5 (-1) = some 4 := rfl
theorem ix_6_0 : ixD 6 0 = some 0 := rfl
theorem ix_6_1 : ixD 6 1 = some 1 := rfl
theorem ix_6_2 : ixD 6 2 = some 2 := rfl
theorem ix_6_3 : ixD 6 3 = some 3 := rfl
theorem ix_6_4 : ixD 6 4 = some 4 := rfl
theorem ix_6_5 : ixD 6 5 = some 5 := rfl
theorem ix_6_m : ixD 6 (-1) = some 5 := rfl
theorem ix_7_0 : ixD 7 0 = some 0 := rfl
theorem ix_7_1 : ixD 7 1 = some 1 := rfl
theorem ix_7_2 : ixD 7 2 = some 2 := rfl
theorem ix_7_3 : ixD 7 3 = some 3 := rfl
theorem ix_7_4 : ixD 7 4 = some 4 := rfl
theorem ix_7_5 : ixD 7 5 = some 5 := rfl
theorem ix_7_6 : ixD 7 6 = some 6 := rfl
theorem ix_7_m : ixD 7 (-1) = some 6 := rfl
theorem ix_9_0 : ixD 9 0 = some 0 := rfl
theorem ix_9_1 : ixD 9 1 = some 1 := rfl
theorem ix_9_2 : ixD 9 2 = some 2 := rfl
theorem ix_9_3 : ixD 9 3 = some 3 := rfl
theorem ix_9_4 : ixD 9 4 = some 4 := rfl
theorem ix_9_5 : ixD 9 5 = some 5 := rfl
theorem ix_9_6 : ixD 9 6 = some 6 := rfl
theorem ix_9_7 : ixD 9 7 = some 7 := rfl
theorem ix_9_8 : ixD 9 8 = some 8 := rfl
theorem ix_9_m : ixD 9 (-1) = some 8 := rfl
theorem ix_12_0 : ixD 12 0 = some 0 := rfl
theorem ix_12_1 : ixD 12 1 = some 1 := rfl
theorem ix_12_2 : ixD 12 2 = some 2 := rfl
theorem ix_12_3 : ixD 12 3 = some 3 := rfl
theorem ix_12_4 : ixD 12 4 = some 4 := rfl
theorem ix_12_5 : ixD 12 5 = some 5 := rfl
theorem ix_12_6 : ixD 12 6 = some 6 := rfl
theorem ix_12_7 : ixD 12 7 = some 7 := rfl
theorem ix_12_8 : ixD 12 8 = some 8 := rfl
theorem ix_12_9 : ixD 12 9 = some 9 := rfl
theorem ix_12_10 : ixD 12 10 = some 10 := rfl
theorem ix_12_11 : ixD 12 11 = some 11 := rfl
theorem ix_12_m : ixD 12 (-1) = some 11 := rfl
theorem tq_non_int : tyD P .non .int = some false := rfl
theorem tq_non_bool : tyD P .non .bool = some false := rfl
theorem tq_non_str : tyD P .non .str = some false := rfl
theorem tq_non_tuple : tyD P .non .tuple = some false := rfl
theorem tq_non_list : tyD P .non .list = some false := rfl
theorem tq_non_c {c : Nat} : tyD P .non (.cls c) = if P.sub c c = some true then some false else none := rfl
theorem tq_bl_int {x : Bool} : tyD P (.bl x) .int = some true := rfl
theorem tq_bl_bool {x : Bool} : tyD P (.bl x) .bool = some true := rfl
theorem tq_bl_str {x : Bool} : tyD P (.bl x) .str = some false := rfl
theorem tq_bl_tuple {x : Bool} : tyD P (.bl x) .tuple = some false := rfl
theorem tq_bl_list {x : Bool} : tyD P (.bl x) .list = some false := rfl
theorem tq_bl_c {x : Bool} {c : Nat} : tyD P (.bl x) (.cls c) = if P.sub c c = some true then some false else none := rfl
theorem tq_int_int {x : Int} : tyD P (.int x) .int = some true := rfl
theorem tq_int_bool {x : Int} : tyD P (.int x) .bool = some false := rfl
theorem tq_int_str {x : Int} : tyD P (.int x) .str = some false := rfl
theorem tq_int_tuple {x : Int} : tyD P (.int x) .tuple = some false := rfl
theorem tq_int_list {x : Int} : tyD P (.int x) .list = some false := rfl
theorem tq_int_c {x : Int} {c : Nat} : tyD P (.int x) (.cls c) = if P.sub c c = some true then some false else none := rfl
theorem tq_str_int {x : Str} : tyD P (.str x) .int = some false := rfl
theorem tq_str_bool {x : Str} : tyD P (.str x) .bool = some false := rfl
theorem tq_str_str {x : Str} : tyD P (.str x) .str = some true := rfl
theorem tq_str_tuple {x : Str} : tyD P (.str x) .tuple = some false := rfl
theorem tq_str_list {x : Str} : tyD P (.str x) .list = some false := rfl
theorem tq_str_c {x : Str} {c : Nat} : tyD P (.str x) (.cls c) = if P.sub c c = some true then some false else none := rfl
theorem tq_tup_int {x : List D} : tyD P (.tup x) .int = some false := rfl
theorem tq_tup_bool {x : List D} : tyD P (.tup x) .bool = some false := rfl
theorem tq_tup_str {x : List D} : tyD P (.tup x) .str = some false := rfl
theorem tq_tup_tuple {x : List D} : tyD P (.tup x) .tuple = some true := rfl
theorem tq_tup_list {x : List D} : tyD P (.tup x) .list = some false := rfl
theorem tq_tup_c {x : List D} {c : Nat} : tyD P (.tup x) (.cls c) = if P.sub c c = some true then some false else none := rfl
theorem tq_lst_int {x : List D} : tyD P (.lst x) .int = some false := rfl
theorem tq_lst_bool {x : List D} : tyD P (.lst x) .bool = some false := rfl
theorem tq_lst_str {x : List D} : tyD P (.lst x) .str = some false := rfl
theorem tq_lst_tuple {x : List D} : tyD P (.lst x) .tuple = some false := rfl
theorem tq_lst_list {x : List D} : tyD P (.lst x) .list = some true := rfl
theorem tq_lst_c {x : List D} {c : Nat} : tyD P (.lst x) (.cls c) = if P.sub c c = some true then some false else none := rfl
theorem tq_frz_int {x : List D} : tyD P (.frz x) .int = some false := rfl
theorem tq_frz_bool {x : List D} : tyD P (.frz x) .bool = some false := rfl
theorem tq_frz_str {x : List D} : tyD P (.frz x) .str = some false := rfl
theorem tq_frz_tuple {x : List D} : tyD P (.frz x) .tuple = some false := rfl
theorem tq_frz_list {x : List D} : tyD P (.frz x) .list = some true := rfl
theorem tq_frz_c {x : List D} {c : Nat} : tyD P (.frz x) (.cls c) = if P.sub c c = some true then some false else none := rfl
theorem tq_ins_int {c : Nat} {ns : List Nat} {xs : List D} : tyD P (.ins c ns xs) .int = if P.sub c c = some true ∧ P.exc c = false then some false else none := rfl
theorem tq_ins_bool {c : Nat} {ns : List Nat} {xs : List D} : tyD P (.ins c ns xs) .bool = if P.sub c c = some true ∧ P.exc c = false then some false else none := rfl
theorem tq_ins_str {c : Nat} {ns : List Nat} {xs : List D} : tyD P (.ins c ns xs) .str = if P.sub c c = some true ∧ P.exc c = false then some false else none := rfl
theorem tq_ins_tuple {c : Nat} {ns : List Nat} {xs : List D} : tyD P (.ins c ns xs) .tuple = if P.sub c c = some true ∧ P.exc c = false then some false else none := rfl
theorem tq_ins_list {c : Nat} {ns : List Nat} {xs : List D} : tyD P (.ins c ns xs) .list = if P.sub c c = some true ∧ P.exc c = false then some false else none := rfl
theorem tq_ins_c {c c' : Nat} {ns : List Nat} {xs : List D} : tyD P (.ins c ns xs) (.cls c') = if P.exc c = false then P.sub c c' else none := rfl
theorem sl_l {xs : List D} {lo hi : Option Int} : sliceD (.lst xs) lo hi = some (.ok (.ow (cut xs lo hi))) := rfl
theorem sl_z {xs : List D} {lo hi : Option Int} : sliceD (.frz xs) lo hi = some (.ok (.ow (cut xs lo hi))) := rfl
theorem isa_nil : isaD P a [] = some false := rfl
theorem isa_cons {t : Ty} {ts : List Ty} : isaD P a (t :: ts) = brT (tyD P a t) (some true) (isaD P a ts) := by
  show (match tyD P a t with | some true => some true | some false => isaD P a ts | none => none) = _
  cases tyD P a t with
  | none => rfl
  | some b => cases b <;> rfl
theorem dunder_on {m cc f : Nat} {ns : List Nat} {xs : List D} {r : List D} (h : r.all (insOf cc) = true) (hm : P.meth cc m = some f) : dunder P C m (.ins cc ns xs) r = ans (C f ((.ins cc ns xs :: r).map .fr)) := by
  unfold dunder
  dsimp only
  rw [if_pos h, hm]
theorem add_ins {cc : Nat} {ns : List Nat} {xs : List D} : addD P C (.ins cc ns xs) b = dunder P C mAdd (.ins cc ns xs) [b] := by cases b <;> rfl
theorem sub_ins {cc : Nat} {ns : List Nat} {xs : List D} : subD P C (.ins cc ns xs) b = dunder P C mSub (.ins cc ns xs) [b] := by cases b <;> rfl
theorem mul_ins {cc : Nat} {ns : List Nat} {xs : List D} : mulD P C (.ins cc ns xs) b = dunder P C mMul (.ins cc ns xs) [b] := by cases b <;> rfl
theorem neg_ins {cc : Nat} {ns : List Nat} {xs : List D} : negD P C (.ins cc ns xs) = dunder P C mNeg (.ins cc ns xs) [] := rfl
theorem ans_s {e : EV} : ans (some (.ret e [])) = some (.ok e) := rfl
theorem ans_x {x : Exn} : ans (some (CR.exc x)) = some (.ex x) := rfl
theorem ty_cc {cc cc' : Nat} {ns : List Nat} {xs : List D} {bb : Bool} (h : P.exc cc = false) (hs : P.sub cc cc' = some bb) : tyD P (.ins cc ns xs) (.cls cc') = some bb := by
  show (if P.exc cc = false then P.sub cc cc' else none) = _
  rw [if_pos h, hs]
theorem ty_cb {cc : Nat} {ns : List Nat} {xs : List D} {t : Ty} (h : P.exc cc = false) (hs : P.sub cc cc = some true) (ht : ∀ c', t ≠ .cls c') : tyD P (.ins cc ns xs) t = some false := by
  cases t with
  | cls c' => exact absurd rfl (ht c')
  | _ => exact if_pos ⟨hs, h⟩
def notIns : D → Bool
  | .ins _ _ _ => false
  | _ => true
theorem ty_bc {cc : Nat} (h : notIns a = true) (hs : P.sub cc cc = some true) : tyD P a (.cls cc) = some false := by
  cases a <;> first | exact if_pos hs | cases h
end
end

/-! ### calls of known functions -/
section
variable {P : Prog} {C : Orc} {ρ : EnvD} {f : Nat} {F : Fn}
theorem putR_s {e : EV} : putR false [] ρ (some (.ret e [])) = some (.ok e ρ) := rfl
theorem putR_x {is : List Nat} {b : Bool} {x : Exn} : putR b is ρ (some (CR.exc x)) = some (.ex x) := rfl
theorem putR_m {i : Nat} {e e2 : EV} (h : e2.flat = true) : putR false [i] ρ (some (.ret e [e2])) = some (.ok e (ρ.set i (some e2))) := by
  show bO (if e2.flat then some (ρ.set i (some e2)) else none) _ = _
  rw [if_pos h]; rfl
theorem putR_ow {i : Nat} {e : EV} {xs : List D} : putR false [i] ρ (some (.ret e [.ow xs])) = some (.ok e (ρ.set i (some (.ow xs)))) := putR_m rfl
theorem putR_oi {i c : Nat} {e : EV} {ns : List Nat} {xs : List D} : putR false [i] ρ (some (.ret e [.oi c ns xs])) = some (.ok e (ρ.set i (some (.oi c ns xs)))) := putR_m rfl
theorem okM_d : ∀ {ods : List OD} {j : Nat}, ods.all OD.isD = true → okM [] j ods = true
  | [], _, _ => rfl
  | o :: os, j, h => by
    rw [List.all_cons, Bool.and_eq_true] at h
    show ((o.isM == false) && okM [] (j + 1) os) = true
    rw [okM_d h.2]
    cases o <;> first | rfl | cases h.1
theorem any_d : ∀ {ods : List OD}, ods.all OD.isD = true → ods.any OD.isB = false
  | [], _ => rfl
  | o :: os, h => by
    rw [List.all_cons, Bool.and_eq_true] at h
    rw [List.any_cons, any_d h.2]
    cases o <;> first | rfl | cases h.1
theorem ap_d (hF : P.fn f = some F) (hmu : F.mu = []) {ods : List OD} (h : ods.all OD.isD = true) : apply P C f ods ρ = bO (args ρ ods) fun as => putR false [] ρ (C f as) := by
  rw [apply_on hF]
  unfold callE
  rw [hmu]
  show (if (okM [] 0 ods && nodupB [] && (List.isEmpty [] || !ods.any OD.isB)) = true then _ else none) = _
  rw [okM_d h, any_d h]
  rfl
theorem ap0 (hF : P.fn f = some F) (hmu : F.mu = []) : apply P C f [] ρ = putR false [] ρ (C f []) := ap_d hF hmu rfl
theorem ap1 (hF : P.fn f = some F) (hmu : F.mu = []) {a : D} : apply P C f [.d a] ρ = putR false [] ρ (C f [.fr a]) := ap_d hF hmu rfl
theorem ap2 (hF : P.fn f = some F) (hmu : F.mu = []) {a b : D} : apply P C f [.d a, .d b] ρ = putR false [] ρ (C f [.fr a, .fr b]) := ap_d hF hmu rfl
theorem ap3 (hF : P.fn f = some F) (hmu : F.mu = []) {a b c : D} : apply P C f [.d a, .d b, .d c] ρ = putR false [] ρ (C f [.fr a, .fr b, .fr c]) := ap_d hF hmu rfl
theorem ap4 (hF : P.fn f = some F) (hmu : F.mu = []) {a b c d : D} : apply P C f [.d a, .d b, .d c, .d d] ρ = putR false [] ρ (C f [.fr a, .fr b, .fr c, .fr d]) := ap_d hF hmu rfl
theorem apm_ (hF : P.fn f = some F) (hmu : F.mu = [0]) {i : Nat} {ods : List OD} (h : ods.all OD.isD = true) (h2 : okM [0] 1 ods = true) : apply P C f (.m i :: ods) ρ = bO (args ρ (.m i :: ods)) fun as => putR false [i] ρ (C f as) := by
  rw [apply_on hF]
  unfold callE
  rw [hmu]
  show (if (okM [0] 1 ods && true && (false || !(false || ods.any OD.isB))) = true then _ else none) = _
  rw [h2, any_d h]
  show bO (args ρ (.m i :: ods)) (fun as => putR (false || ods.any OD.isB) [i] ρ (C f as)) = _
  rw [any_d h]
  rfl
def ownE : Option EV → Option EV
  | some (.fr _) => none
  | some (.tb _) => none
  | e => e
theorem ownE_ow {xs : List D} : ownE (some (.ow xs)) = some (.ow xs) := rfl
theorem ownE_oi {c : Nat} {ns : List Nat} {xs : List D} : ownE (some (.oi c ns xs)) = some (.oi c ns xs) := rfl
theorem arg_mm {i : Nat} : arg ρ (.m i) = ownE (get ρ i) := by
  unfold arg
  dsimp only
  cases get ρ i with
  | none => rfl
  | some e => cases e <;> rfl
theorem apm0 (hF : P.fn f = some F) (hmu : F.mu = [0]) {i : Nat} : apply P C f [.m i] ρ = bO (ownE (get ρ i)) fun e => putR false [i] ρ (C f [e]) := by
  rw [apm_ hF hmu rfl rfl]
  unfold args
  rw [arg_mm]
  cases ownE (get ρ i) <;> rfl
theorem apm1 (hF : P.fn f = some F) (hmu : F.mu = [0]) {i : Nat} {a : D} : apply P C f [.m i, .d a] ρ = bO (ownE (get ρ i)) fun e => putR false [i] ρ (C f [e, .fr a]) := by
  rw [apm_ hF hmu rfl rfl]
  unfold args
  rw [arg_mm]
  cases ownE (get ρ i) <;> rfl
theorem apm2 (hF : P.fn f = some F) (hmu : F.mu = [0]) {i : Nat} {a b : D} : apply P C f [.m i, .d a, .d b] ρ = bO (ownE (get ρ i)) fun e => putR false [i] ρ (C f [e, .fr a, .fr b]) := by
  rw [apm_ hF hmu rfl rfl]
  unfold args
  rw [arg_mm]
  cases ownE (get ρ i) <;> rfl
theorem mk_d {c : Nat} (hm : P.meth c mInit = some f) (hF : P.fn f = some F) (hmu : F.mu = [0]) {ods : List OD} (h : ods.all OD.isD = true) : make P C c ods ρ = bO (views ρ ods) fun ds => newR c ρ (C f (.oi c [] [] :: ds.map .fr)) := by
  rw [make_on hm hF hmu, if_pos h]
theorem mk1 {c : Nat} (hm : P.meth c mInit = some f) (hF : P.fn f = some F) (hmu : F.mu = [0]) {a : D} : make P C c [.d a] ρ = newR c ρ (C f [.oi c [] [], .fr a]) := mk_d hm hF hmu rfl
theorem mk2 {c : Nat} (hm : P.meth c mInit = some f) (hF : P.fn f = some F) (hmu : F.mu = [0]) {a b : D} : make P C c [.d a, .d b] ρ = newR c ρ (C f [.oi c [] [], .fr a, .fr b]) := mk_d hm hF hmu rfl
theorem mk3 {c : Nat} (hm : P.meth c mInit = some f) (hF : P.fn f = some F) (hmu : F.mu = [0]) {a b d : D} : make P C c [.d a, .d b, .d d] ρ = newR c ρ (C f [.oi c [] [], .fr a, .fr b, .fr d]) := mk_d hm hF hmu rfl
theorem newR_s {c : Nat} {ns : List Nat} {xs : List D} : newR c ρ (some (.ret (.fr .non) [.oi c ns xs])) = some (.ok (.fr (.ins c ns xs)) ρ) := if_pos rfl
theorem newR_x {c : Nat} {x : Exn} : newR c ρ (some (CR.exc x)) = some (.ex x) := rfl
theorem xr_str {c : Nat} {m : Str} {mu : List Nat} : exec P C (.raise c (.cons (.cst (.str m)) .nil)) mu ρ = some (.ex (.mk c (.str m))) := exec_raise rfl
theorem outM0 {e x : EV} {r : EnvD} (h : x.flat = true) : outR [0] (some (.rt e (some x :: r))) = some (.ret e [x]) := by
  show ((if x.flat then some [x] else none).map fun es => CR.ret e es) = _
  rw [if_pos h]; rfl
theorem outM0n {x : EV} {r : EnvD} (h : x.flat = true) : outR [0] (some (.nx (some x :: r))) = some (.ret (.fr .non) [x]) := by
  show ((if x.flat then some [x] else none).map fun es => CR.ret (.fr .non) es) = _
  rw [if_pos h]; rfl
theorem outM_ow {e : EV} {xs : List D} {r : EnvD} : outR [0] (some (.rt e (some (.ow xs) :: r))) = some (.ret e [.ow xs]) := outM0 rfl
theorem outM_oi {c : Nat} {ns : List Nat} {xs : List D} {r : EnvD} : outR [0] (some (.nx (some (.oi c ns xs) :: r))) = some (.ret (.fr .non) [.oi c ns xs]) := outM0n rfl
end
/-! ### comprehensions -/
section
variable {P : Prog} {C : Orc} {ρ : EnvD}
theorem same_self {b : Option Nat} : same b ρ ρ := by cases b <;> simp [same]
/-- a comprehension whose turns leave the names as they are -/
theorem lcL_map {b : Option Nat} {step : D → EnvD → Option (R (Option D))} {f : D → Option D} : ∀ {xs acc : List D}, (∀ x ∈ xs, step x ρ = some (.ok (f x) ρ)) → acc.length + xs.length ≤ most → lcL b step xs acc ρ = some (.ok (acc ++ xs.filterMap f) ρ)
  | [], acc, _, _ => by rw [lcL]; simp
  | x :: xs, acc, h, hl => by
    rw [lcL, h x List.mem_cons_self]
    simp only [bindR_ok]
    rw [if_pos same_self]
    simp only [List.length_cons] at hl
    cases e : f x with
    | none =>
      dsimp only
      rw [lcL_map (fun y hy => h y (List.mem_cons_of_mem _ hy)) (by omega), List.filterMap_cons_none e]
    | some y =>
      dsimp only
      rw [if_pos (by omega), lcL_map (fun y hy => h y (List.mem_cons_of_mem _ hy)) (by rw [List.length_append]; simp; omega), List.filterMap_cons_some e, List.append_assoc]
      rfl
def lcE (vs : List Nat) (ρ1 : EnvD) : Option (R (List D)) → Option (R EV)
  | some (.ok ys ρ2) => some (.ok (.ow ys) (backD ρ1 ρ2 vs))
  | _ => none
theorem lcE_s {vs : List Nat} {ρ1 ρ2 : EnvD} {ys : List D} : lcE vs ρ1 (some (.ok ys ρ2)) = some (.ok (.ow ys) (backD ρ1 ρ2 vs)) := rfl
theorem ve_lc {vs : List Nat} {t : Tg} {it : It} {cs : Es} {e : E} : ev P C (.lc vs t it cs e) ρ = bR (evI P C it ρ) fun src ρ1 => lcE vs ρ1 (lcL src.2 (lcS P C t cs e vs) src.1 [] (wipeD ρ1 vs)) := by
  rw [ev]
  refine bindR_k fun src ρ1 => ?_
  show (match lcL src.2 (lcS P C t cs e vs) src.1 [] (wipeD ρ1 vs) with
      | some (R.ok ys ρ2) => some (R.ok (EV.ow ys) (backD ρ1 ρ2 vs))
      | _ => none) = _
  cases lcL src.2 (lcS P C t cs e vs) src.1 [] (wipeD ρ1 vs) with
  | none => rfl
  | some r => cases r <;> rfl
theorem lcS_eq {t : Tg} {cs : Es} {e : E} {vs : List Nat} {x : D} : lcS P C t cs e vs x ρ = bO (asgT [] t (.fr x) ρ) fun ρ' => bR (evC P C cs ρ') fun b ρ'' => brB b (bR (ev P C e ρ'') fun v ρ3 => some (.ok (some v.fz) (wipeD ρ3 vs))) (some (.ok none (wipeD ρ'' vs))) := by
  unfold lcS
  cases asgT [] t (.fr x) ρ with
  | none => rfl
  | some ρ' =>
    refine bindR_k fun b ρ'' => ?_
    cases b <;> rfl
theorem evC_nil : evC P C .nil ρ = some (.ok true ρ) := by rw [evC]
theorem evC_one {c : E} : evC P C (.cons c .nil) ρ = bR (ev P C c ρ) fun v ρ1 => onT (truth v.fz) fun b => some (.ok b ρ1) := by
  rw [evC]
  unfold tst
  cases ev P C c ρ with
  | none => rfl
  | some r =>
    cases r with
    | ex x => rfl
    | ok v ρ1 =>
      simp only [bindR_ok]
      show bindR (match truth v.fz with | none => none | some b => some (R.ok b ρ1)) _ = onT (truth v.fz) fun b => some (.ok b ρ1)
      cases truth v.fz with
      | none => rfl
      | some b => cases b <;> first | rfl | (simp only [bindR_ok]; rw [evC]; rfl)
theorem wipeD_nil : wipeD ρ [] = ρ := rfl
theorem wipeD_cons {v : Nat} {vs : List Nat} : wipeD ρ (v :: vs) = (wipeD ρ vs).set v none := rfl
end
/-! ### numbers -/
/-- so small -/
def Sz (m : Nat) (i : Int) : Prop := i.natAbs < 2 ^ m
section
variable {i j : Int} {m n : Nat}
theorem Sz.mono (h : Sz m i) (l : m ≤ n) : Sz n i := Nat.lt_of_lt_of_le h (Nat.pow_le_pow_right (by decide) l)
theorem Sz.mul (h : Sz m i) (k : Sz n j) : Sz (m + n) (i * j) := by
  unfold Sz at *
  rw [Int.natAbs_mul, Nat.pow_add]
  exact Nat.mul_lt_mul'' h k
theorem Sz.add (h : Sz m i) (k : Sz m j) : Sz (m + 1) (i + j) := by
  unfold Sz at *
  have := Int.natAbs_add_le i j
  rw [Nat.pow_succ]
  omega
theorem Sz.neg (h : Sz m i) : Sz m (-i) := by
  unfold Sz at *
  rw [Int.natAbs_neg]; exact h
theorem Sz.sub (h : Sz m i) (k : Sz m j) : Sz (m + 1) (i - j) := by
  rw [Int.sub_eq_add_neg]; exact h.add k.neg
theorem Sz.log (h : Sz m i) : i.natAbs = 0 ∨ i.natAbs.log2 < m := by
  rcases Nat.eq_zero_or_pos i.natAbs with z | z
  · exact .inl z
  · exact .inr ((Nat.log2_lt (by omega)).mpr h)
theorem mulOk_of (h : Sz m i) (k : Sz n j) (hm : m ≤ 10000) (hn : n ≤ 10000) : mulOk i j = true := by
  unfold mulOk
  simp only [Bool.or_eq_true, decide_eq_true_eq]
  rcases h.log with z | z
  · exact .inl (.inl (by rw [z]; decide))
  · rcases k.log with w | w
    · exact .inl (.inr (by rw [w]; decide))
    · exact .inr (by omega)
theorem mulOk_l (h : i.natAbs < 2 ^ 60) : mulOk i j = true := by
  unfold mulOk
  rw [decide_eq_true h]; rfl
theorem mulOk_r (h : j.natAbs < 2 ^ 60) : mulOk i j = true := by
  unfold mulOk
  rw [decide_eq_true h]; simp
theorem divOk_of (h0 : j ≠ 0) (h : Sz m j) (hm : m ≤ 9000) : divOk j = true := by
  unfold divOk
  rw [decide_eq_true h0]
  rcases h.log with z | z
  · rw [z]; decide
  · rw [decide_eq_true (show j.natAbs.log2 < 9000 by omega)]; rfl
end

end
end Ev
/-! EvRat: fractions, small enough. -/
namespace Ev
theorem sz_le {a b : Int} {m : Nat} (h : a.natAbs ≤ b.natAbs) (k : Sz m b) : Sz m a := Nat.lt_of_le_of_lt h k
theorem sz_of {m : Nat} {i b : Int} (h1 : -b ≤ i) (h2 : i ≤ b) (hb : Sz m b) : Sz m i := by
  unfold Sz at *
  omega
theorem gcdI_neg {n d : Int} : gcdI (-n) (-d) = gcdI n d := by unfold gcdI; rw [Int.natAbs_neg, Int.natAbs_neg]
theorem gcdI_pos {n d : Int} (h : d ≠ 0) : 0 < gcdI n d := by
  unfold gcdI
  have : 0 < Nat.gcd n.natAbs d.natAbs := Nat.gcd_pos_of_pos_right _ (Int.natAbs_pos.mpr h)
  omega
theorem gcdI_sz {n d : Int} {m : Nat} (h : d ≠ 0) (k : Sz m d) : Sz m (gcdI n d) := by
  unfold Sz gcdI at *
  have : Nat.gcd n.natAbs d.natAbs ≤ d.natAbs := Nat.gcd_le_right _ (Int.natAbs_pos.mpr h)
  rw [Int.natAbs_natCast]
  omega
theorem gcd_div {n d : Int} {m : Nat} (h : d ≠ 0) (k : Sz m d) (hm : m ≤ 9000) : divOk (gcdI n d) = true := divOk_of (by have := gcdI_pos (n := n) h; omega) (gcdI_sz h k) hm
theorem fdiv_gcd {n d : Int} (h : d ≠ 0) (x : Int) : x.fdiv (gcdI n d) = x / gcdI n d := Int.fdiv_eq_ediv_of_nonneg _ (Int.le_of_lt (gcdI_pos h))
/-- what a fraction is made of -/
theorem mk_num {n d : Int} (h : d ≠ 0) : (if d < 0 then -n else n).fdiv (gcdI n d) = (Rat.divInt n d).num := by
  rw [fdiv_gcd h, Rat.num_divInt]
  have e : gcdI n d = ((d.gcd n : Nat) : Int) := by unfold gcdI; rw [Nat.gcd_comm]; rfl
  rw [e]
  by_cases hd : d < 0
  · rw [if_pos hd, Int.sign_eq_neg_one_of_neg hd, Int.neg_one_mul]
  · rw [if_neg hd, Int.sign_eq_one_of_pos (by omega), Int.one_mul]
theorem mk_den {n d : Int} (h : d ≠ 0) : (if d < 0 then -d else d).fdiv (gcdI n d) = ((Rat.divInt n d).den : Int) := by
  rw [fdiv_gcd h, Rat.den_divInt, if_neg h]
  have e : gcdI n d = ((d.gcd n : Nat) : Int) := by unfold gcdI; rw [Nat.gcd_comm]; rfl
  have e2 : (if d < 0 then -d else d) = ((d.natAbs : Nat) : Int) := by split <;> omega
  rw [e, e2, Int.natCast_ediv]
/-- so many binary digits at most -/
structure Sq (m : Nat) (q : Rat) : Prop where
  n : Sz m q.num
  d : Sz m (q.den : Int)
theorem Sq.mono {m k : Nat} {q : Rat} (h : Sq m q) (le : m ≤ k) : Sq k q := ⟨h.n.mono le, h.d.mono le⟩
theorem den_ne {q : Rat} : (q.den : Int) ≠ 0 := by have := q.den_nz; omega
theorem den_gt {q : Rat} : 0 < (q.den : Int) := by have := q.den_nz; omega
theorem sq_divInt {m : Nat} {n d : Int} (h : d ≠ 0) (hn : Sz m n) (hd : Sz m d) : Sq m (Rat.divInt n d) := by
  refine ⟨sz_le ?_ hn, sz_le ?_ hd⟩
  · rw [← mk_num h, fdiv_gcd h]
    refine Nat.le_trans (Int.natAbs_ediv_le_natAbs _ _) ?_
    split <;> omega
  · rw [← mk_den h, fdiv_gcd h]
    refine Nat.le_trans (Int.natAbs_ediv_le_natAbs _ _) ?_
    split <;> omega
theorem q_add {p q : Rat} : Rat.divInt (p.num * q.den + q.num * p.den) (p.den * q.den) = p + q := by
  rw [Rat.add_def', ← Rat.divInt_ofNat, Int.natCast_mul]
theorem q_sub {p q : Rat} : Rat.divInt (p.num * q.den - q.num * p.den) (p.den * q.den) = p - q := by
  rw [Rat.sub_def', ← Rat.divInt_ofNat, Int.natCast_mul]
theorem q_mul {p q : Rat} : Rat.divInt (p.num * q.num) (p.den * q.den) = p * q := by
  rw [Rat.mul_def', ← Rat.divInt_ofNat, Int.natCast_mul]
theorem q_neg {p : Rat} : Rat.divInt (-p.num) p.den = -p := by
  rw [← Rat.neg_divInt, Rat.num_divInt_den]
theorem q_int {n : Int} : Rat.divInt n 1 = (n : Rat) := Rat.num_divInt_den (n : Rat)
theorem q_over {p q : Rat} : Rat.divInt (p.num * q.den) (p.den * q.num) = p / q := by
  rw [Rat.div_def, Rat.inv_def, ← Rat.divInt_mul_divInt, Rat.num_divInt_den]
theorem q_self {p : Rat} : Rat.divInt p.num p.den = p := Rat.num_divInt_den p
theorem q_half {p : Rat} : Rat.divInt p.num (2 * p.den) = p / 2 := by
  rw [← q_over, Int.mul_comm 2]
  congr 1
  exact (Int.mul_one _).symm
theorem q_abs {p : Rat} : Rat.divInt (if p.num < 0 then -p.num else p.num) p.den = (if p < 0 then -p else p) := by
  have e : p.num < 0 ↔ p < 0 := by
    rw [Rat.lt_iff]; simp
  by_cases h : p < 0
  · rw [if_pos (e.mpr h), if_pos h, q_neg]
  · rw [if_neg (fun z => h (e.mp z)), if_neg h, q_self]
theorem q_lt {p q : Rat} : decide (p.num * q.den < q.num * p.den) = decide (p < q) := by
  rw [decide_eq_decide, Rat.lt_iff]
theorem q_le {p q : Rat} : decide (p.num * q.den ≤ q.num * p.den) = decide (p ≤ q) := by
  rw [decide_eq_decide, Rat.le_iff]
theorem q_eq {p q : Rat} : (decide (p.num = q.num) && decide ((p.den : Int) = q.den)) = decide (p = q) := by
  by_cases h : p = q
  · subst h; simp
  · rw [decide_eq_false h, Bool.and_eq_false_iff, decide_eq_false_iff_not, decide_eq_false_iff_not]
    by_cases h1 : p.num = q.num
    · exact .inr fun h2 => h (Rat.ext h1 (by omega))
    · exact .inl h1
theorem Sz.addN {m k : Nat} {a b : Int} (A : Sz m a) (B : Sz k b) : Sz (max m k + 1) (a + b) := by
  have A' := A.mono (Nat.le_max_left m k)
  have B' := B.mono (Nat.le_max_right m k)
  unfold Sz at *
  rw [Nat.pow_succ]
  omega
theorem sq_one : Sz 1 (1 : Int) := by unfold Sz; decide
variable {p q : Rat} {m k : Nat}
theorem Sq.add (A : Sq m p) (B : Sq k q) : Sq (m + k + 1) (p + q) := by
  rw [← q_add]
  refine sq_divInt (Int.mul_ne_zero den_ne den_ne) ((Sz.addN (A.n.mul B.d) (B.n.mul A.d)).mono (by omega)) ((A.d.mul B.d).mono (by omega))
theorem Sq.neg (A : Sq m p) : Sq m (-p) := ⟨A.n.neg, A.d⟩
theorem Sq.sub (A : Sq m p) (B : Sq k q) : Sq (m + k + 1) (p - q) := by
  rw [Rat.sub_eq_add_neg]
  exact A.add B.neg
theorem Sq.mul (A : Sq m p) (B : Sq k q) : Sq (m + k) (p * q) := by
  rw [← q_mul]
  exact sq_divInt (Int.mul_ne_zero den_ne den_ne) (A.n.mul B.n) (A.d.mul B.d)
theorem Sq.div (A : Sq m p) (B : Sq k q) (h : q ≠ 0) : Sq (m + k) (p / q) := by
  rw [← q_over]
  exact sq_divInt (Int.mul_ne_zero den_ne (fun z => h (Rat.num_eq_zero.mp z))) (A.n.mul B.d) (A.d.mul B.n)
theorem sz_two : Sz 2 (2 : Int) := by unfold Sz; decide
theorem Sq.half (A : Sq m p) : Sq (m + 2) (p / 2) := by
  rw [← q_half]
  exact sq_divInt (Int.mul_ne_zero (by decide) den_ne) (A.n.mono (by omega)) ((sz_two.mul A.d).mono (by omega))
theorem sq_int {n : Int} (h : Sz m n) (hm : 1 ≤ m) : Sq m (n : Rat) := ⟨h, sq_one.mono hm⟩
theorem Sq.mOk (A : Sq m p) (B : Sq k q) (h : m + k ≤ 9000) : mulOk p.num q.num = true ∧ mulOk p.num q.den = true ∧ mulOk (p.den : Int) q.num = true ∧ mulOk (p.den : Int) q.den = true ∧ mulOk q.num p.den = true :=
  ⟨mulOk_of A.n B.n (by omega) (by omega), mulOk_of A.n B.d (by omega) (by omega), mulOk_of A.d B.n (by omega) (by omega), mulOk_of A.d B.d (by omega) (by omega), mulOk_of B.n A.d (by omega) (by omega)⟩
theorem mulNe {p q : Rat} : (p.den : Int) * q.den ≠ 0 := Int.mul_ne_zero den_ne den_ne
end Ev
/-! EvLoop: loops and comprehensions, as a whole. -/
namespace Ev
noncomputable section
variable {α β : Type} {P : Prog} {C : Orc} {ρ : EnvD} {mu : List Nat}
/-- a comprehension whose turns leave the names as they are -/
theorem lcL_FM {b : Option Nat} {step : D → EnvD → Option (R (Option D))} {g : α → D} (f : α → Option D) {as : List α} (h : ∀ a ∈ as, step (g a) ρ = some (.ok (f a) ρ)) (hl : as.length ≤ most) : lcL b step (as.map g) [] ρ = some (.ok (as.filterMap f) ρ) := by
  have key : ∀ (as : List α) (acc : List D), (∀ a ∈ as, step (g a) ρ = some (.ok (f a) ρ)) → acc.length + as.length ≤ most → lcL b step (as.map g) acc ρ = some (.ok (acc ++ as.filterMap f) ρ) := by
    intro as
    induction as with
    | nil => intro acc _ _; rw [List.map_nil, lcL]; simp
    | cons x xs ih =>
      intro acc h hl
      rw [List.map_cons, lcL, h x List.mem_cons_self]
      simp only [bindR_ok]
      rw [if_pos same_self]
      simp only [List.length_cons] at hl
      cases e : f x with
      | none =>
        dsimp only
        rw [ih _ (fun y hy => h y (List.mem_cons_of_mem _ hy)) (by omega), List.filterMap_cons_none e]
      | some y =>
        dsimp only
        rw [if_pos (by omega), ih _ (fun y hy => h y (List.mem_cons_of_mem _ hy)) (by rw [List.length_append]; simp; omega), List.filterMap_cons_some e, List.append_assoc]
        rfl
  have := key as [] h (by simpa using hl)
  simpa using this
theorem lcL_T {b : Option Nat} {step : D → EnvD → Option (R (Option D))} {g : α → D} (f : α → D) {as : List α} (h : ∀ a ∈ as, step (g a) ρ = some (.ok (some (f a)) ρ)) (hl : as.length ≤ most) : lcL b step (as.map g) [] ρ = some (.ok (as.map f) ρ) := by
  rw [lcL_FM (fun a => some (f a)) h hl, List.filterMap_eq_map']
theorem lcL_F {b : Option Nat} {step : D → EnvD → Option (R (Option D))} {g : α → D} (c : α → Bool) {as : List α} (h : ∀ a ∈ as, step (g a) ρ = some (.ok (if c a = true then some (g a) else none) ρ)) (hl : as.length ≤ most) : lcL b step (as.map g) [] ρ = some (.ok ((as.filter c).map g) ρ) := by
  rw [lcL_FM (fun a => if c a = true then some (g a) else none) h hl]
  congr 2
  clear h hl
  induction as with
  | nil => rfl
  | cons x xs ih =>
    by_cases hc : c x = true
    · rw [List.filterMap_cons_some (by rw [if_pos hc]), List.filter_cons_of_pos hc, List.map_cons, ih]
    · rw [List.filterMap_cons_none (by rw [if_neg hc]), List.filter_cons_of_neg hc, ih]
/-- a comprehension that draws -/
theorem lcL_I {step : D → EnvD → Option (R (Option D))} (I : EnvD → Prop) (Q : D → Prop) {xs : List D} (h : ∀ x ∈ xs, ∀ ρ, I ρ → ∃ y ρ', step x ρ = some (.ok (some y) ρ') ∧ I ρ' ∧ Q y) (hl : xs.length ≤ most) (h0 : I ρ) :
    ∃ ys ρ', lcL none step xs [] ρ = some (.ok ys ρ') ∧ I ρ' ∧ ys.length = xs.length ∧ ∀ y ∈ ys, Q y := by
  have key : ∀ (xs acc : List D) (ρ : EnvD), (∀ x ∈ xs, ∀ ρ, I ρ → ∃ y ρ', step x ρ = some (.ok (some y) ρ') ∧ I ρ' ∧ Q y) → acc.length + xs.length ≤ most → I ρ →
      ∃ ys ρ', lcL none step xs acc ρ = some (.ok (acc ++ ys) ρ') ∧ I ρ' ∧ ys.length = xs.length ∧ ∀ y ∈ ys, Q y := by
    intro xs
    induction xs with
    | nil => intro acc ρ _ _ i; exact ⟨[], ρ, by rw [lcL]; simp, i, rfl, fun _ z => absurd z List.not_mem_nil⟩
    | cons x xs ih =>
      intro acc ρ h hl i
      obtain ⟨y, ρ1, e, i1, q⟩ := h x List.mem_cons_self ρ i
      simp only [List.length_cons] at hl
      obtain ⟨ys, ρ2, e2, i2, l2, q2⟩ := ih (acc ++ [y]) ρ1 (fun y hy => h y (List.mem_cons_of_mem _ hy)) (by rw [List.length_append]; simp; omega) i1
      refine ⟨y :: ys, ρ2, ?_, i2, by simp [l2], fun z hz => ?_⟩
      · rw [lcL, e]
        simp only [bindR_ok]
        rw [if_pos (show same none ρ ρ1 from trivial), if_pos (by omega), e2, List.append_assoc]
        rfl
      · rcases List.mem_cons.mp hz with rfl | hz
        · exact q
        · exact q2 z hz
  have := key xs [] ρ h (by simpa using hl) h0
  simpa using this
/-- the same, of what is drawn -/
theorem lcL_Q {step : D → EnvD → Option (R (Option D))} {g : β → D} (I : EnvD → Prop) (Q : β → Prop) {xs : List D} (h : ∀ x ∈ xs, ∀ ρ, I ρ → ∃ q ρ', step x ρ = some (.ok (some (g q)) ρ') ∧ I ρ' ∧ Q q) (hl : xs.length ≤ most) (h0 : I ρ) :
    ∃ (qs : List β) (ρ' : EnvD), lcL none step xs [] ρ = some (.ok (qs.map g) ρ') ∧ I ρ' ∧ qs.length = xs.length ∧ ∀ q ∈ qs, Q q := by
  obtain ⟨ys, ρ', e, i, l, q⟩ := lcL_I I (fun y => ∃ q, y = g q ∧ Q q) (fun x hx ρ i => by
    obtain ⟨q, ρ', e, i', hq⟩ := h x hx ρ i
    exact ⟨_, ρ', e, i', q, rfl, hq⟩) hl h0
  have : ∃ qs : List β, ys = qs.map g ∧ ∀ q ∈ qs, Q q := by
    clear e l
    induction ys with
    | nil => exact ⟨[], rfl, fun _ z => absurd z List.not_mem_nil⟩
    | cons y ys ih =>
      obtain ⟨qs, rfl, hq⟩ := ih fun z hz => q z (List.mem_cons_of_mem _ hz)
      obtain ⟨z, rfl, hz⟩ := q y List.mem_cons_self
      refine ⟨z :: qs, rfl, fun w hw => ?_⟩
      rcases List.mem_cons.mp hw with rfl | hw
      · exact hz
      · exact hq w hw
  obtain ⟨qs, rfl, hq⟩ := this
  exact ⟨qs, ρ', e, i, by simpa using l, hq⟩
theorem it_lst {xs : List D} : itemsOf (.lst xs) = some xs := rfl
theorem it_tup {xs : List D} : itemsOf (.tup xs) = some xs := rfl
theorem it_frz {xs : List D} : itemsOf (.frz xs) = some xs := rfl
theorem add_l {xs ys : List D} (h : xs.length + ys.length ≤ most) : addD P C (.lst xs) (.lst ys) = some (.ok (.ow (xs ++ ys))) := by
  show (if xs.length + ys.length ≤ most then some (An.ok (.ow (xs ++ ys))) else none) = _
  rw [if_pos h]
theorem add_t {xs ys : List D} (h : xs.length + ys.length ≤ most) : addD P C (.tup xs) (.tup ys) = some (.ok (.fr (.tup (xs ++ ys)))) := by
  show (if xs.length + ys.length ≤ most then some (An.ok (.fr (.tup (xs ++ ys)))) else none) = _
  rw [if_pos h]
theorem tup_l {xs : List D} : tupleD (.lst xs) = some (.ok (.fr (.tup xs))) := rfl
theorem tup_t {xs : List D} : tupleD (.tup xs) = some (.ok (.fr (.tup xs))) := rfl
theorem lst_l {xs : List D} : listD (.lst xs) = some (.ok (.ow xs)) := rfl
theorem lst_t {xs : List D} : listD (.tup xs) = some (.ok (.ow xs)) := rfl
theorem backD_nil {ρ0 : EnvD} : backD ρ0 ρ [] = ρ := rfl
theorem backD_cons {ρ0 : EnvD} {v : Nat} {vs : List Nat} : backD ρ0 ρ (v :: vs) = (backD ρ0 ρ vs).set v (ρ0[v]?.join) := rfl
/-- one turn of a loop -/
def turn (P : Prog) (C : Orc) (t : Tg) (b : Ss) (mu : List Nat) (x : D) (ρ : EnvD) : Option F := bO (asgT mu t (.fr x) ρ) fun ρ' => execs P C b mu ρ'
theorem turn_eq {t : Tg} {b : Ss} {x : D} : turn P C t b mu x ρ = bO (asgT mu t (.fr x) ρ) fun ρ' => execs P C b mu ρ' := rfl
theorem for_cons' {t : Tg} {b : Ss} {xs : List D} {x : D} {r : List D} : forK P C t b mu (xs, none) (x :: r) ρ = tF (turn P C t b mu x ρ) fun ρ2 => forK P C t b mu (xs, none) r ρ2 := by
  rw [for_cons]
  unfold turn
  cases asgT mu t (.fr x) ρ <;> rfl
/-- a loop that comes to its end: what holds of the names, item by item -/
theorem for_I {t : Tg} {b : Ss} {src : List D} {g : α → D} (I : List α → EnvD → Prop) {as : List α} (h : ∀ pre a post ρ, as = pre ++ a :: post → I pre ρ → ∃ ρ', turn P C t b mu (g a) ρ = some (.nx ρ') ∧ I (pre ++ [a]) ρ') (h0 : I [] ρ) :
    ∃ ρ', forK P C t b mu (src, none) (as.map g) ρ = some (.nx ρ') ∧ I as ρ' := by
  have key : ∀ (post pre : List α) (ρ : EnvD), as = pre ++ post → I pre ρ → ∃ ρ', forK P C t b mu (src, none) (post.map g) ρ = some (.nx ρ') ∧ I as ρ' := by
    intro post
    induction post with
    | nil => intro pre ρ e i; rw [List.append_nil] at e; subst e; exact ⟨ρ, for_nil, i⟩
    | cons a post ih =>
      intro pre ρ e i
      obtain ⟨ρ1, e1, i1⟩ := h pre a post ρ e i
      obtain ⟨ρ2, e2, i2⟩ := ih (pre ++ [a]) ρ1 (by rw [e]; simp) i1
      refine ⟨ρ2, ?_, i2⟩
      rw [List.map_cons, for_cons', e1]
      exact e2
  exact key as [] ρ rfl h0
/-- a loop as a fold -/
theorem for_fold {σ : Type} {t : Tg} {b : Ss} {src : List D} {g : α → D} (φ : σ → Option EV → EnvD) (f : σ → α → σ) {as : List α} {s : σ} {y : Option EV} (h : ∀ a ∈ as, ∀ s y, ∃ y', turn P C t b mu (g a) (φ s y) = some (.nx (φ (f s a) y'))) :
    ∃ y', forK P C t b mu (src, none) (as.map g) (φ s y) = some (.nx (φ (as.foldl f s) y')) := by
  induction as generalizing s y with
  | nil => exact ⟨y, for_nil⟩
  | cons a as ih =>
    obtain ⟨y1, e1⟩ := h a List.mem_cons_self s y
    obtain ⟨y2, e2⟩ := ih (s := f s a) (y := y1) fun a ha => h a (List.mem_cons_of_mem _ ha)
    refine ⟨y2, ?_⟩
    rw [List.map_cons, for_cons', e1]
    exact e2
/-- a loop whose turns change but the loop's own name -/
theorem for_skip {t : Tg} {b : Ss} {src : List D} {g : α → D} (φ : Option EV → EnvD) {as : List α} {y : Option EV} (h : ∀ a ∈ as, ∀ y, ∃ y', turn P C t b mu (g a) (φ y) = some (.nx (φ y'))) :
    ∃ y', forK P C t b mu (src, none) (as.map g) (φ y) = some (.nx (φ y')) :=
  for_fold (σ := Unit) (fun _ => φ) (fun _ _ => ()) (s := ()) fun a ha _ y => h a ha y
theorem rng_len {lo : Int} {n : Nat} : (rngD lo n).length = n := by unfold rngD; simp
theorem rngD_map {lo : Int} {n : Nat} : rngD lo n = (List.range n).map fun k => .int (lo + (k : Nat)) := rfl
end
end Ev
/-! EvPlain: slices, places, sums and rows in order. -/
namespace Ev
section
variable {α : Type}
theorem cut_to {xs : List α} {k : Nat} (h : k ≤ xs.length) : cut xs none (some (k : Int)) = xs.take k := by
  unfold cut
  rw [HT.sIx_none, HT.sIx_nat, List.drop_zero, Nat.sub_zero, Nat.min_eq_left h]
theorem cut_from {xs : List α} {k : Nat} (h : k ≤ xs.length) : cut xs (some (k : Int)) none = xs.drop k := by
  unfold cut
  rw [HT.sIx_none, HT.sIx_nat, Nat.min_eq_left h]
  exact List.take_of_length_le (by rw [List.length_drop]; exact Nat.le_refl _)
theorem cut_mid {xs : List α} {i j : Nat} (h : i ≤ xs.length) (hj : j ≤ xs.length) : cut xs (some (i : Int)) (some (j : Int)) = (xs.drop i).take (j - i) := by
  unfold cut
  rw [HT.sIx_nat, HT.sIx_nat, Nat.min_eq_left h, Nat.min_eq_left hj]
theorem cut_map {α β : Type} (f : α → β) (xs : List α) (lo hi : Option Int) : cut (xs.map f) lo hi = (cut xs lo hi).map f := by
  unfold cut
  rw [List.length_map, List.map_take, List.map_drop]
theorem ixD_nat {n k : Nat} (h : k < n) : ixD n (k : Int) = some k := by
  unfold ixD
  rw [if_pos (by omega), if_pos (by omega), Int.toNat_natCast]
theorem ixD_i {n : Nat} {i : Int} (h0 : 0 ≤ i) (h : i < n) : ixD n i = some i.toNat := by
  unfold ixD
  rw [if_pos h0, if_pos h]
theorem ixD_last {n : Nat} (h : 0 < n) : ixD n (-1) = some (n - 1) := by
  unfold ixD
  rw [if_neg (by decide), if_pos (by omega)]
  congr 1
  omega
end
theorem idx_0 {v x : D} {xs : List D} (h : v = .tup (x :: xs) ∨ v = .lst (x :: xs)) : idxD v (.int 0) = some (.ok (.fr x)) := by
  have e := ixD_nat (n := (x :: xs).length) (k := 0) (by simp)
  rcases h with rfl | rfl
  · rw [ix_t, show ((0 : Int)) = ((0 : Nat) : Int) from rfl, e]; rfl
  · rw [ix_l, show ((0 : Int)) = ((0 : Nat) : Int) from rfl, e]; rfl
theorem idx_last {v x : D} {xs : List D} (h : v = .tup (xs ++ [x]) ∨ v = .lst (xs ++ [x])) : idxD v (.int (-1)) = some (.ok (.fr x)) := by
  have e := ixD_last (n := (xs ++ [x]).length) (by simp)
  have e2 : (xs ++ [x])[(xs ++ [x]).length - 1]? = some x := by simp
  rcases h with rfl | rfl
  · rw [ix_t, e, ixL_s, e2]; rfl
  · rw [ix_l, e, ixL_s, e2]; rfl
/-! ### rows in order -/
def upto (xs : List Rat) (x : Rat) : Nat := (xs.filter fun o => decide (o ≤ x)).length
def insQ (xs : List Rat) (x : Rat) : List Rat := xs.take (upto xs x) ++ [x] ++ xs.drop (upto xs x)
def asc (qs : List Rat) : List Rat := qs.foldl insQ []
def Srt (xs : List Rat) : Prop := xs.Pairwise fun a b => a ≤ b
theorem upto_eq {xs : List Rat} {x : Rat} {g : Rat → D} : ((xs.filter fun o => decide (o ≤ x)).map g).length = upto xs x := List.length_map _
theorem upto_le {xs : List Rat} {x : Rat} : upto xs x ≤ xs.length := List.length_filter_le _ _
theorem srt_cut : ∀ {xs : List Rat} {x : Rat}, Srt xs → (∀ y ∈ xs.take (upto xs x), y ≤ x) ∧ ∀ y ∈ xs.drop (upto xs x), x ≤ y
  | [], x, _ => ⟨by simp, by simp⟩
  | a :: xs, x, h => by
    have h' : (∀ y ∈ xs, a ≤ y) ∧ Srt xs := List.pairwise_cons.mp h
    obtain ⟨i1, i2⟩ := srt_cut (x := x) h'.2
    by_cases c : a ≤ x
    · have e : upto (a :: xs) x = upto xs x + 1 := by unfold upto; rw [List.filter_cons_of_pos (by simpa using c), List.length_cons]
      rw [e, List.take_succ_cons, List.drop_succ_cons]
      refine ⟨fun y hy => ?_, i2⟩
      rcases List.mem_cons.mp hy with rfl | hy
      · exact c
      · exact i1 y hy
    · have hx : x ≤ a := Rat.le_of_lt (Rat.not_le.mp c)
      have z : ∀ y ∈ xs, ¬ y ≤ x := fun y hy q => c (Rat.le_trans (h'.1 y hy) q)
      have e : upto (a :: xs) x = 0 := by
        unfold upto
        rw [List.filter_cons_of_neg (by simpa using c), List.filter_eq_nil_iff.mpr fun y hy => by simpa using z y hy]
        rfl
      rw [e]
      refine ⟨by simp, fun y hy => ?_⟩
      rw [List.drop_zero] at hy
      rcases List.mem_cons.mp hy with rfl | hy
      · exact hx
      · exact Rat.le_trans hx (h'.1 y hy)
theorem ins_srt {xs : List Rat} {x : Rat} (h : Srt xs) : Srt (insQ xs x) := by
  obtain ⟨h1, h2⟩ := srt_cut (x := x) h
  have h3 := h
  unfold Srt at h3
  rw [← List.take_append_drop (upto xs x) xs] at h3
  obtain ⟨a, b, c⟩ := List.pairwise_append.mp h3
  unfold insQ Srt
  rw [List.append_assoc]
  refine List.pairwise_append.mpr ⟨a, List.pairwise_cons.mpr ⟨h2, b⟩, fun y hy z hz => ?_⟩
  rcases List.mem_cons.mp hz with rfl | hz
  · exact h1 y hy
  · exact c y hy z hz
theorem ins_mem {xs : List Rat} {x y : Rat} : y ∈ insQ xs x ↔ y ∈ xs ∨ y = x := by
  unfold insQ
  conv => rhs; rw [← List.take_append_drop (upto xs x) xs]
  simp only [List.mem_append, List.mem_cons, List.not_mem_nil, or_false]
  constructor
  · rintro ((h | h) | h) <;> simp [h]
  · rintro ((h | h) | h) <;> simp [h]
theorem ins_len {xs : List Rat} {x : Rat} : (insQ xs x).length = xs.length + 1 := by
  unfold insQ
  simp only [List.length_append, List.length_take, List.length_drop, List.length_cons, List.length_nil]
  have := upto_le (xs := xs) (x := x)
  omega
theorem asc_snoc {qs : List Rat} {q : Rat} : asc (qs ++ [q]) = insQ (asc qs) q := by unfold asc; rw [List.foldl_append]; rfl
theorem asc_len {qs : List Rat} : (asc qs).length = qs.length := by
  have : ∀ (qs acc : List Rat), (qs.foldl insQ acc).length = acc.length + qs.length := by
    intro qs
    induction qs with
    | nil => intro acc; rfl
    | cons q qs ih => intro acc; rw [List.foldl_cons, ih, ins_len, List.length_cons]; omega
  unfold asc
  rw [this]; simp
theorem asc_srt {qs : List Rat} : Srt (asc qs) := by
  have : ∀ (qs acc : List Rat), Srt acc → Srt (qs.foldl insQ acc) := by
    intro qs
    induction qs with
    | nil => intro acc h; exact h
    | cons q qs ih => intro acc h; exact ih _ (ins_srt h)
  exact this qs [] List.Pairwise.nil
theorem asc_mem {qs : List Rat} {y : Rat} : y ∈ asc qs ↔ y ∈ qs := by
  have : ∀ (qs acc : List Rat), y ∈ qs.foldl insQ acc ↔ y ∈ acc ∨ y ∈ qs := by
    intro qs
    induction qs with
    | nil => intro acc; simp
    | cons q qs ih => intro acc; rw [List.foldl_cons, ih, ins_mem, List.mem_cons]; simp only [or_assoc]
  unfold asc
  rw [this]; simp
/-- a row's least, greatest -/
def IsMin (m : Rat) (qs : List Rat) : Prop := m ∈ qs ∧ ∀ q ∈ qs, m ≤ q
def IsMax (m : Rat) (qs : List Rat) : Prop := m ∈ qs ∧ ∀ q ∈ qs, q ≤ m
theorem min_uniq {a b : Rat} {qs : List Rat} (h : IsMin a qs) (k : IsMin b qs) : a = b := Rat.le_antisymm (h.2 b k.1) (k.2 a h.1)
theorem max_uniq {a b : Rat} {qs : List Rat} (h : IsMax a qs) (k : IsMax b qs) : a = b := Rat.le_antisymm (k.2 a h.1) (h.2 b k.1)
theorem asc_first {qs : List Rat} {a : Rat} (h : (asc qs)[0]? = some a) : IsMin a qs := by
  obtain ⟨xs, e⟩ : ∃ xs, asc qs = a :: xs := by
    cases e : asc qs with
    | nil => rw [e] at h; cases h
    | cons x xs => rw [e] at h; cases h; exact ⟨_, rfl⟩
  have s := asc_srt (qs := qs)
  rw [e] at s
  refine ⟨asc_mem.mp (by rw [e]; exact List.mem_cons_self), fun q hq => ?_⟩
  have hq' := asc_mem.mpr hq
  rw [e] at hq'
  rcases List.mem_cons.mp hq' with rfl | hq'
  · exact Rat.le_refl
  · exact (List.pairwise_cons.mp s).1 q hq'
theorem asc_last {qs : List Rat} {a : Rat} (h : (asc qs).getLast? = some a) : IsMax a qs := by
  obtain ⟨xs, e⟩ := List.getLast?_eq_some_iff.mp h
  have s := asc_srt (qs := qs)
  rw [e] at s
  refine ⟨asc_mem.mp (by rw [e]; simp), fun q hq => ?_⟩
  have hq' := asc_mem.mpr hq
  rw [e] at hq'
  rcases List.mem_append.mp hq' with hq' | hq'
  · exact (List.pairwise_append.mp s).2.2 q hq' a List.mem_cons_self
  · rcases List.mem_cons.mp hq' with rfl | hq'
    · exact Rat.le_refl
    · cases hq'
/-- a row's least as it is looked for -/
def mnQ (m q : Rat) : Rat := if decide (q < m) = true then q else m
def mxQ (m q : Rat) : Rat := if decide (m < q) = true then q else m
theorem mnQ_t {m q : Rat} (h : q < m) : mnQ m q = q := by unfold mnQ; rw [if_pos (decide_eq_true h)]
theorem mnQ_f {m q : Rat} (h : ¬ q < m) : mnQ m q = m := by unfold mnQ; rw [if_neg (by simpa using h)]
theorem mxQ_t {m q : Rat} (h : m < q) : mxQ m q = q := by unfold mxQ; rw [if_pos (decide_eq_true h)]
theorem mxQ_f {m q : Rat} (h : ¬ m < q) : mxQ m q = m := by unfold mxQ; rw [if_neg (by simpa using h)]
theorem mn_fold : ∀ (qs : List Rat) (m : Rat), (qs.foldl mnQ m = m ∨ qs.foldl mnQ m ∈ qs) ∧ qs.foldl mnQ m ≤ m ∧ ∀ q ∈ qs, qs.foldl mnQ m ≤ q
  | [], m => ⟨.inl rfl, Rat.le_refl, by simp⟩
  | x :: xs, m => by
    obtain ⟨h1, h2, h3⟩ := mn_fold xs (mnQ m x)
    rw [List.foldl_cons]
    by_cases c : x < m
    · have e : mnQ m x = x := by unfold mnQ; rw [if_pos (decide_eq_true c)]
      rw [e] at h1 h2 h3 ⊢
      refine ⟨.inr ?_, Rat.le_trans h2 (Rat.le_of_lt c), fun q hq => ?_⟩
      · rcases h1 with h1 | h1
        · rw [h1]; exact List.mem_cons_self
        · exact List.mem_cons_of_mem _ h1
      · rcases List.mem_cons.mp hq with rfl | hq
        · exact h2
        · exact h3 q hq
    · have e : mnQ m x = m := by unfold mnQ; rw [if_neg (by simpa using c)]
      rw [e] at h1 h2 h3 ⊢
      refine ⟨h1.imp id (List.mem_cons_of_mem _), h2, fun q hq => ?_⟩
      rcases List.mem_cons.mp hq with rfl | hq
      · exact Rat.le_trans h2 (Rat.not_lt.mp c)
      · exact h3 q hq
theorem mx_fold : ∀ (qs : List Rat) (m : Rat), (qs.foldl mxQ m = m ∨ qs.foldl mxQ m ∈ qs) ∧ m ≤ qs.foldl mxQ m ∧ ∀ q ∈ qs, q ≤ qs.foldl mxQ m
  | [], m => ⟨.inl rfl, Rat.le_refl, by simp⟩
  | x :: xs, m => by
    obtain ⟨h1, h2, h3⟩ := mx_fold xs (mxQ m x)
    rw [List.foldl_cons]
    by_cases c : m < x
    · have e : mxQ m x = x := by unfold mxQ; rw [if_pos (decide_eq_true c)]
      rw [e] at h1 h2 h3 ⊢
      refine ⟨.inr ?_, Rat.le_trans (Rat.le_of_lt c) h2, fun q hq => ?_⟩
      · rcases h1 with h1 | h1
        · rw [h1]; exact List.mem_cons_self
        · exact List.mem_cons_of_mem _ h1
      · rcases List.mem_cons.mp hq with rfl | hq
        · exact h2
        · exact h3 q hq
    · have e : mxQ m x = m := by unfold mxQ; rw [if_neg (by simpa using c)]
      rw [e] at h1 h2 h3 ⊢
      refine ⟨h1.imp id (List.mem_cons_of_mem _), h2, fun q hq => ?_⟩
      rcases List.mem_cons.mp hq with rfl | hq
      · exact Rat.le_trans (Rat.not_lt.mp c) h2
      · exact h3 q hq
theorem mn_min {m : Rat} {qs : List Rat} : IsMin ((m :: qs).foldl mnQ m) (m :: qs) := by
  obtain ⟨h1, h2, h3⟩ := mn_fold (m :: qs) m
  refine ⟨h1.elim (fun e => by rw [e]; exact List.mem_cons_self) id, h3⟩
theorem mx_max {m : Rat} {qs : List Rat} : IsMax ((m :: qs).foldl mxQ m) (m :: qs) := by
  obtain ⟨h1, h2, h3⟩ := mx_fold (m :: qs) m
  refine ⟨h1.elim (fun e => by rw [e]; exact List.mem_cons_self) id, h3⟩
/-- a row's sum -/
def sumQ (qs : List Rat) : Rat := qs.foldl (· + ·) 0
theorem sum_snoc {qs : List Rat} {q : Rat} : sumQ (qs ++ [q]) = sumQ qs + q := by unfold sumQ; rw [List.foldl_append]; rfl
theorem sq_zero : Sq 1 0 := ⟨by unfold Sz; decide, by unfold Sz; decide⟩
theorem sq_sum {m : Nat} : ∀ (qs : List Rat), (∀ q ∈ qs, Sq m q) → Sq (1 + (m + 1) * qs.length) (sumQ qs) := by
  have key : ∀ (qs : List Rat) (a : Rat) (k : Nat), Sq k a → (∀ q ∈ qs, Sq m q) → Sq (k + (m + 1) * qs.length) (qs.foldl (· + ·) a) := by
    intro qs
    induction qs with
    | nil => intro a k h _; exact h
    | cons q qs ih =>
      intro a k h hq
      have := ih (a + q) (k + m + 1) (h.add (hq q List.mem_cons_self)) fun z hz => hq z (List.mem_cons_of_mem _ hz)
      rw [List.foldl_cons]
      refine this.mono ?_
      rw [List.length_cons, Nat.mul_add]
      omega
  intro qs h
  exact key qs 0 1 sq_zero h
end Ev
/-! EvStep: tables, pop, chains, zip, step by step. -/
namespace Ev
noncomputable section
variable {P : Prog} {C : Orc} {ρ : EnvD} {mu : List Nat}
theorem vl_lt_ {w : List Nat} {t : Tg} {it : It} {e : E} {es : Es} : evl P C (.cons (.lt w t it e) es) ρ = bR (ev P C (.lt w t it e) ρ) fun v ρ1 => bR (evl P C es ρ1) fun ods ρ2 => some (.ok (.d v.fz :: ods) ρ2) := vl_lt
theorem vl_ix2_ {i : Nat} {x y : E} {es : Es} : evl P C (.cons (.ix2 i x y) es) ρ = bR (ev P C (.ix2 i x y) ρ) fun v ρ1 => bR (evl P C es ρ1) fun ods ρ2 => some (.ok (.d v.fz :: ods) ρ2) := vl_ix2
theorem vl_lrg_ {xs : Es} {es : Es} : evl P C (.cons (.lrg xs) es) ρ = bR (ev P C (.lrg xs) ρ) fun v ρ1 => bR (evl P C es ρ1) fun ods ρ2 => some (.ok (.d v.fz :: ods) ρ2) := vl_cons rfl
theorem vi_lt_ {w : List Nat} {t : Tg} {it : It} {e : E} : evI P C (.seq (.lt w t it e)) ρ = bR (ev P C (.lt w t it e) ρ) fun v ρ1 => bO (itemsOf v.fz) fun xs => some (.ok (xs, none) ρ1) := vi_lt
theorem vi_ix2_ {i : Nat} {x y : E} : evI P C (.seq (.ix2 i x y)) ρ = bR (ev P C (.ix2 i x y) ρ) fun v ρ1 => bO (itemsOf v.fz) fun xs => some (.ok (xs, none) ρ1) := vi_ix2
theorem vi_lrg_ {xs : Es} : evI P C (.seq (.lrg xs)) ρ = bR (ev P C (.lrg xs) ρ) fun v ρ1 => bO (itemsOf v.fz) fun xs => some (.ok (xs, none) ρ1) := evI_seq rfl
theorem varK_tb_ {i : Nat} {xss : List (List D)} : varK ρ i (some (.tb xss)) = some (.ok (.fr (.lst (xss.map .lst))) (ρ.set i (some (.fr (.lst (xss.map .lst)))))) := rfl
/-! a table made -/
def ltE (vs : List Nat) (ρ1 : EnvD) : Option (R (List (List D))) → Option (R EV)
  | some (.ok ys ρ2) => some (.ok (.tb ys) (backD ρ1 ρ2 vs))
  | _ => none
theorem ltE_s {vs : List Nat} {ρ1 ρ2 : EnvD} {ys : List (List D)} : ltE vs ρ1 (some (.ok ys ρ2)) = some (.ok (.tb ys) (backD ρ1 ρ2 vs)) := rfl
theorem ve_lt {vs : List Nat} {t : Tg} {it : It} {e : E} : ev P C (.lt vs t it e) ρ = bR (evI P C it ρ) fun src ρ1 => ltE vs ρ1 (ltL src.2 (ltS P C t e vs) src.1 [] (wipeD ρ1 vs)) := by
  rw [ev]
  refine bindR_k fun src ρ1 => ?_
  show (match ltL src.2 (ltS P C t e vs) src.1 [] (wipeD ρ1 vs) with
      | some (R.ok ys ρ2) => some (R.ok (EV.tb ys) (backD ρ1 ρ2 vs))
      | _ => none) = _
  cases ltL src.2 (ltS P C t e vs) src.1 [] (wipeD ρ1 vs) with
  | none => rfl
  | some r => cases r <;> rfl
def owK (vs : List Nat) (ρ3 : EnvD) : EV → Option (R (List D))
  | .ow ys => some (.ok ys (wipeD ρ3 vs))
  | _ => none
theorem owK_s {vs : List Nat} {ys : List D} : owK vs ρ (.ow ys) = some (.ok ys (wipeD ρ vs)) := rfl
theorem ltS_eq {t : Tg} {e : E} {vs : List Nat} {x : D} : ltS P C t e vs x ρ = bO (asgT [] t (.fr x) ρ) fun ρ' => bR (ev P C e ρ') fun v ρ3 => owK vs ρ3 v := by
  unfold ltS
  cases asgT [] t (.fr x) ρ with
  | none => rfl
  | some ρ' =>
    refine bindR_k fun v ρ3 => ?_
    cases v <;> rfl
/-- a table whose rows leave the names as they are -/
theorem ltL_T {α : Type} {b : Option Nat} {step : D → EnvD → Option (R (List D))} {g : α → D} (f : α → List D) {as : List α} (h : ∀ a ∈ as, step (g a) ρ = some (.ok (f a) ρ)) (hl : as.length ≤ most) : ltL b step (as.map g) [] ρ = some (.ok (as.map f) ρ) := by
  have key : ∀ (as : List α) (acc : List (List D)), (∀ a ∈ as, step (g a) ρ = some (.ok (f a) ρ)) → acc.length + as.length ≤ most → ltL b step (as.map g) acc ρ = some (.ok (acc ++ as.map f) ρ) := by
    intro as
    induction as with
    | nil => intro acc _ _; rw [List.map_nil, ltL]; simp
    | cons x xs ih =>
      intro acc h hl
      rw [List.map_cons, ltL, h x List.mem_cons_self]
      simp only [bindR_ok]
      rw [if_pos same_self]
      simp only [List.length_cons] at hl
      rw [if_pos (by omega), ih _ (fun y hy => h y (List.mem_cons_of_mem _ hy)) (by rw [List.length_append]; simp; omega), List.map_cons, List.append_assoc]
      rfl
  have := key as [] h (by simpa using hl)
  simpa using this
/-! what is read off without a change -/
theorem cm_cst {i : Int} : calmE ρ (.cst (.int i)) = some i := rfl
def cmV : Option EV → Option Int
  | some (.fr (.int k)) => some k
  | _ => none
theorem cmV_s {k : Int} : cmV (some (.fr (.int k))) = some k := rfl
theorem cm_var {i : Nat} : calmE ρ (.var i) = cmV (get ρ i) := by
  unfold calmE cmV
  rfl
def cm2 (f : Int → Int → Int) : Option Int → Option Int → Option Int
  | some i, some j => some (f i j)
  | _, _ => none
theorem cm2_s {f : Int → Int → Int} {i j : Int} : cm2 f (some i) (some j) = some (f i j) := rfl
theorem cm_add {a b : E} : calmE ρ (.op .add (.cons a (.cons b .nil))) = cm2 (· + ·) (calmE ρ a) (calmE ρ b) := by
  rw [calmE]; rfl
theorem cm_sub {a b : E} : calmE ρ (.op .sub (.cons a (.cons b .nil))) = cm2 (· - ·) (calmE ρ a) (calmE ρ b) := by
  rw [calmE]; rfl
def ix2K (ρ : EnvD) : Option EV → Option Int → Option Int → Option (R EV)
  | some (.tb xss), some a, some b => bO (ix2D xss a b) fun d => some (.ok (.fr d) ρ)
  | _, _, _ => none
theorem ix2K_s {xss : List (List D)} {a b : Int} : ix2K ρ (some (.tb xss)) (some a) (some b) = bO (ix2D xss a b) fun d => some (.ok (.fr d) ρ) := rfl
theorem ve_ix2 {i : Nat} {x y : E} : ev P C (.ix2 i x y) ρ = ix2K ρ (get ρ i) (calmE ρ x) (calmE ρ y) := by
  rw [ev]
  generalize get ρ i = g
  generalize calmE ρ x = p
  generalize calmE ρ y = q
  rcases g with _ | (g | g | g | xss) <;> rcases p with _ | a <;> rcases q with _ | b <;> first | rfl | (dsimp only [ix2K]; cases ix2D xss a b <;> rfl)
/-! stores -/
theorem exec_st {t : Tl} {e : E} : exec P C (.st t e) mu ρ = bF (ev P C e ρ) fun v ρ1 => bO (asgL mu ρ1 v.fz t) fun ρ2 => some (.nx ρ2) := by
  rw [exec]
  show bindF _ _ = bindF _ _
  congr 1
  funext v ρ1
  cases asgL mu ρ1 v.fz t <;> rfl
def stsK (mu : List Nat) (ts : List Tl) (ods : List OD) (ρ1 : EnvD) : Option F := if (ods.all OD.isD && decide (2 ≤ ods.length)) = true then bO (views ρ1 ods) fun ds => bO (asgLs mu ρ1 ds ts) fun ρ2 => some (.nx ρ2) else none
theorem exec_sts {ts : List Tl} {es : Es} : exec P C (.sts ts es) mu ρ = bF (evl P C es ρ) fun ods ρ1 => stsK mu ts ods ρ1 := by
  rw [exec]
  show bindF _ _ = bindF _ _
  congr 1
  funext ods ρ1
  unfold stsK
  split
  · cases views ρ1 ods with
    | none => rfl
    | some ds =>
      dsimp only [bO]
      cases asgLs mu ρ1 ds ts <;> rfl
  · rfl
theorem stsK_2 {ts : List Tl} {d e : D} : stsK mu ts [.d d, .d e] ρ = bO (asgLs mu ρ [d, e] ts) fun ρ2 => some (.nx ρ2) := rfl
theorem asgLs_nil : asgLs mu ρ [] [] = some ρ := rfl
theorem asgLs_cons {v : D} {vs : List D} {t : Tl} {ts : List Tl} : asgLs mu ρ (v :: vs) (t :: ts) = bO (asgL mu ρ v t) fun ρ' => asgLs mu ρ' vs ts := by
  rw [asgLs]
  cases asgL mu ρ v t <;> rfl
theorem asgL_nm {v : D} {i : Nat} : asgL mu ρ v (.nm i) = if mu.contains i = true then none else some (ρ.set i (some (.fr v))) := rfl
def sub1K (ρ : EnvD) (i : Nat) (v : D) : Option EV → Option Int → Option EnvD
  | some (.ow xs), some a => bO (ixD xs.length a) fun j => some (ρ.set i (some (.ow (xs.set j v))))
  | _, _ => none
theorem sub1K_s {i : Nat} {v : D} {xs : List D} {a : Int} : sub1K ρ i v (some (.ow xs)) (some a) = bO (ixD xs.length a) fun j => some (ρ.set i (some (.ow (xs.set j v)))) := rfl
theorem asgL_sub {v : D} {i : Nat} {x : E} : asgL mu ρ v (.sub i x) = sub1K ρ i v (get ρ i) (calmE ρ x) := by
  show (match get ρ i, calmE ρ x with
    | some (.ow xs), some a => match ixD xs.length a with
      | some j => some (ρ.set i (some (.ow (xs.set j v))))
      | none => none
    | _, _ => none) = _
  generalize get ρ i = g
  generalize calmE ρ x = p
  rcases g with _ | (g | xs | g | g) <;> rcases p with _ | a <;> first | rfl | (dsimp only [sub1K]; cases ixD xs.length a <;> rfl)
def sub2K (ρ : EnvD) (i : Nat) (v : D) : Option EV → Option Int → Option Int → Option EnvD
  | some (.tb xss), some a, some b => bO (set2D xss a b v) fun yss => some (ρ.set i (some (.tb yss)))
  | _, _, _ => none
theorem sub2K_s {i : Nat} {v : D} {xss : List (List D)} {a b : Int} : sub2K ρ i v (some (.tb xss)) (some a) (some b) = bO (set2D xss a b v) fun yss => some (ρ.set i (some (.tb yss))) := rfl
theorem asgL_sub2 {v : D} {i : Nat} {x y : E} : asgL mu ρ v (.sub2 i x y) = sub2K ρ i v (get ρ i) (calmE ρ x) (calmE ρ y) := by
  show (match get ρ i, calmE ρ x, calmE ρ y with
    | some (.tb xss), some a, some b => match set2D xss a b v with
      | some yss => some (ρ.set i (some (.tb yss)))
      | none => none
    | _, _, _ => none) = _
  generalize get ρ i = g
  generalize calmE ρ x = p
  generalize calmE ρ y = q
  rcases g with _ | (g | g | g | xss) <;> rcases p with _ | a <;> rcases q with _ | b <;> first | rfl | (dsimp only [sub2K]; cases set2D xss a b v <;> rfl)
/-! pop -/
def popK (ρ : EnvD) (i : Nat) (xs : List D) (a : Int) : Option (R EV) := if xs.length ≤ most then bO (ixD xs.length a) fun j => bO xs[j]? fun x => some (.ok (.fr x) (ρ.set i (some (.ow (xs.eraseIdx j))))) else none
def popE (i : Nat) : Option EV → Option (List D) → EnvD → Option (R EV)
  | some (.ow xs), some [.int k], ρ => popK ρ i xs k
  | some (.ow xs), some [], ρ => bO xs.getLast? fun x => some (.ok (.fr x) (ρ.set i (some (.ow xs.dropLast))))
  | _, _, _ => none
theorem popE_1 {i : Nat} {xs : List D} {k : Int} : popE i (some (.ow xs)) (some [.int k]) ρ = popK ρ i xs k := rfl
theorem popE_0 {i : Nat} {xs : List D} : popE i (some (.ow xs)) (some []) ρ = bO xs.getLast? fun x => some (.ok (.fr x) (ρ.set i (some (.ow xs.dropLast)))) := rfl
theorem popK_s {i : Nat} {xs : List D} {a : Int} {j : Nat} {x : D} (h : xs.length ≤ most) (hj : ixD xs.length a = some j) (hx : xs[j]? = some x) : popK ρ i xs a = some (.ok (.fr x) (ρ.set i (some (.ow (xs.eraseIdx j))))) := by
  unfold popK
  rw [if_pos h, hj]
  dsimp only [bO]
  rw [hx]
theorem ve_pop {i : Nat} {es : Es} : ev P C (.pop i es) ρ = if owns (get ρ i) = true then bR (evl P C es ρ) fun ods ρ1 => popE i (get ρ1 i) (views ρ1 ods) ρ1 else none := by
  rw [ev]
  have e : ∀ (ods : List OD) (ρ1 : EnvD), (match get ρ1 i, views ρ1 ods with
      | some (.ow xs), some [] => match xs.getLast? with
        | some x => some (R.ok (EV.fr x) (ρ1.set i (some (.ow xs.dropLast))))
        | none => none
      | some (.ow xs), some [.int k] => if xs.length ≤ most then match ixD xs.length k with
        | some j => match xs[j]? with
          | some x => some (R.ok (EV.fr x) (ρ1.set i (some (.ow (xs.eraseIdx j)))))
          | none => none
        | none => none
        else none
      | _, _ => none) = popE i (get ρ1 i) (views ρ1 ods) ρ1 := fun ods ρ1 => by
    unfold popE popK
    split
    · rename_i xs h1 h2
      rw [h1, h2]
      dsimp only
      cases xs.getLast? <;> rfl
    · rename_i xs k h1 h2
      rw [h1, h2]
      dsimp only
      split
      · cases ixD xs.length k with
        | none => rfl
        | some j => dsimp only [bO]; cases xs[j]? <;> rfl
      · rfl
    · split <;> first | rfl | simp_all
  split
  · rename_i xs h1
    rw [h1, if_pos (show owns (some (EV.ow xs)) = true from rfl)]
    refine bindR_k fun ods ρ1 => ?_
    exact e ods ρ1
  · rename_i h1
    rw [if_neg]
    intro z
    revert z h1
    cases get ρ i with
    | none => intro _ z; cases z
    | some v => cases v <;> first | (intro h1 _; exact absurd rfl (h1 _)) | (intro _ z; cases z)
/-! list(range(n)) -/
def lrgK (ρ : EnvD) : Option (List D) → Option (R EV)
  | some [.int n] => if (rngOk n && decide (n.toNat ≤ 10000)) = true then some (.ok (.ow (rngD 0 n.toNat)) ρ) else none
  | some [.int a, .int b] => if (rngOk a && rngOk b && decide ((b - a).toNat ≤ 10000)) = true then some (.ok (.ow (rngD a (b - a).toNat)) ρ) else none
  | _ => none
theorem ve_lrg {es : Es} : ev P C (.lrg es) ρ = bR (evl P C es ρ) fun ods ρ1 => lrgK ρ1 (views ρ1 ods) := by
  rw [ev]
  rfl
theorem lrgK_1 {n : Int} (h0 : 0 ≤ n) (h : n ≤ 10000) : lrgK ρ (some [.int n]) = some (.ok (.ow (rngD 0 n.toNat)) ρ) := by
  show (if (rngOk n && decide (n.toNat ≤ 10000)) = true then some (R.ok (EV.ow (rngD 0 n.toNat)) ρ) else none) = _
  rw [if_pos (by rw [rngOk_of (by omega) (by omega), decide_eq_true (by omega : n.toNat ≤ 10000)]; rfl)]
theorem rngK_n {n : Int} (h0 : 0 ≤ n) (h : n ≤ 100000) : rngK ρ (some [.int n]) = some (.ok (rngD 0 n.toNat, none) ρ) := by
  rw [rngK_1, if_pos (rngOk_of (by omega) (by omega))]
theorem rngK_ab {a b : Int} (h0 : -100000 ≤ a) (h1 : a ≤ 100000) (h2 : -100000 ≤ b) (h3 : b ≤ 100000) : rngK ρ (some [.int a, .int b]) = some (.ok (rngD a (b - a).toNat, none) ρ) := by
  rw [rngK_2, if_pos (by rw [rngOk_of h0 h1, rngOk_of h2 h3]; rfl)]
/-! chains -/
def chK (P : Prog) (C : Orc) (o : Op) (y : D) (c : E) (ρ : EnvD) : Option An → Option (R EV)
  | some (.ok (.fr (.bl true))) => bR (ev P C c ρ) fun z ρ3 => lift (opS P noC o [y, z.fz]) ρ3
  | some (.ok (.fr (.bl false))) => some (.ok (.fr (.bl false)) ρ)
  | _ => none
theorem chK_t {o : Op} {y : D} {c : E} : chK P C o y c ρ (some (.ok (.fr (.bl true)))) = bR (ev P C c ρ) fun z ρ3 => lift (opS P noC o [y, z.fz]) ρ3 := rfl
theorem chK_f {o : Op} {y : D} {c : E} : chK P C o y c ρ (some (.ok (.fr (.bl false)))) = some (.ok (.fr (.bl false)) ρ) := rfl
theorem ve_chain {o o2 : Op} {a b c : E} : ev P C (.chain o o2 a b c) ρ = bR (ev P C a ρ) fun x ρ1 => bR (ev P C b ρ1) fun y ρ2 => chK P C o2 y.fz c ρ2 (opS P noC o [x.fz, y.fz]) := by
  rw [ev]
  refine bindR_k fun x ρ1 => bindR_k fun y ρ2 => ?_
  unfold chK
  split <;> first | rfl | (split <;> first | rfl | simp_all)
/-! a list of its own, gone through -/
theorem vi_bor {i : Nat} : evI P C (.seq (.bor i)) ρ = bO (get ρ i) fun e => bO (itemsB e) fun xs => some (.ok (xs, some i) ρ) := by
  rw [evI]
  cases get ρ i with
  | none => rfl
  | some e => dsimp only [bO]; cases itemsB e <;> rfl
theorem itB_ow {xs : List D} : itemsB (.ow xs) = some xs := rfl
theorem itB_fr {xs : List D} : itemsB (.fr (.lst xs)) = some xs := rfl
theorem itB_ft {xs : List D} : itemsB (.fr (.tup xs)) = some xs := rfl
/-! the greatest, the least -/
theorem o_max1 {a : D} : opS P C .max1 [a] = bestD maxI a := rfl
theorem o_min1 {a : D} : opS P C .min1 [a] = bestD minI a := rfl
theorem k_max1 : Op.keeps .max1 = false := rfl
theorem k_min1 : Op.keeps .min1 = false := rfl
theorem ints_map : ∀ is : List Int, intsOf (is.map .int) = some is
  | [] => rfl
  | i :: is => by
    rw [List.map_cons]
    show (intsOf (is.map .int)).map (i :: ·) = _
    rw [ints_map is]; rfl
theorem fold_max : ∀ (r : List Int) (i : Int), (r.foldl max i = i ∨ r.foldl max i ∈ r) ∧ i ≤ r.foldl max i ∧ ∀ j ∈ r, j ≤ r.foldl max i
  | [], i => ⟨.inl rfl, Int.le_refl _, by simp⟩
  | j :: r, i => by
    obtain ⟨h1, h2, h3⟩ := fold_max r (max i j)
    rw [List.foldl_cons]
    refine ⟨?_, by omega, fun z hz => ?_⟩
    · rcases h1 with h1 | h1
      · rw [h1]
        by_cases c : i ≤ j
        · right; rw [Int.max_eq_right c]; exact List.mem_cons_self
        · left; exact Int.max_eq_left (by omega)
      · right; exact List.mem_cons_of_mem _ h1
    · rcases List.mem_cons.mp hz with rfl | hz
      · omega
      · exact h3 z hz
theorem fold_min : ∀ (r : List Int) (i : Int), (r.foldl min i = i ∨ r.foldl min i ∈ r) ∧ r.foldl min i ≤ i ∧ ∀ j ∈ r, r.foldl min i ≤ j
  | [], i => ⟨.inl rfl, Int.le_refl _, by simp⟩
  | j :: r, i => by
    obtain ⟨h1, h2, h3⟩ := fold_min r (min i j)
    rw [List.foldl_cons]
    refine ⟨?_, by omega, fun z hz => ?_⟩
    · rcases h1 with h1 | h1
      · rw [h1]
        by_cases c : j ≤ i
        · right; rw [Int.min_eq_right c]; exact List.mem_cons_self
        · left; exact Int.min_eq_left (by omega)
      · right; exact List.mem_cons_of_mem _ h1
    · rcases List.mem_cons.mp hz with rfl | hz
      · omega
      · exact h3 z hz
theorem best_max {is : List Int} {d : D} (hd : seqD d = some (is.map .int)) (h0 : is ≠ []) (hl : is.length ≤ most) : ∃ m, bestD maxI d = some (.ok (.fr (.int m))) ∧ m ∈ is ∧ ∀ i ∈ is, i ≤ m := by
  cases is with
  | nil => exact absurd rfl h0
  | cons i r =>
    obtain ⟨h1, h2, h3⟩ := fold_max r i
    refine ⟨r.foldl max i, ?_, ?_, fun j hj => ?_⟩
    · unfold bestD
      rw [hd]
      dsimp only
      rw [if_pos (by rw [List.length_map]; exact hl), ints_map]
      rfl
    · rcases h1 with h1 | h1
      · rw [h1]; exact List.mem_cons_self
      · exact List.mem_cons_of_mem _ h1
    · rcases List.mem_cons.mp hj with rfl | hj
      · exact h2
      · exact h3 j hj
theorem best_min {is : List Int} {d : D} (hd : seqD d = some (is.map .int)) (h0 : is ≠ []) (hl : is.length ≤ most) : ∃ m, bestD minI d = some (.ok (.fr (.int m))) ∧ m ∈ is ∧ ∀ i ∈ is, m ≤ i := by
  cases is with
  | nil => exact absurd rfl h0
  | cons i r =>
    obtain ⟨h1, h2, h3⟩ := fold_min r i
    refine ⟨r.foldl min i, ?_, ?_, fun j hj => ?_⟩
    · unfold bestD
      rw [hd]
      dsimp only
      rw [if_pos (by rw [List.length_map]; exact hl), ints_map]
      rfl
    · rcases h1 with h1 | h1
      · rw [h1]; exact List.mem_cons_self
      · exact List.mem_cons_of_mem _ h1
    · rcases List.mem_cons.mp hj with rfl | hj
      · exact h2
      · exact h3 j hj
theorem cz_0 : ((0 : Nat) : Int) = 0 := rfl
theorem cz_1 : ((1 : Nat) : Int) = 1 := rfl
theorem cz_2 : ((2 : Nat) : Int) = 2 := rfl
theorem cz_3 : ((3 : Nat) : Int) = 3 := rfl
theorem cz_4 : ((4 : Nat) : Int) = 4 := rfl
/-! zip -/
def zipK (ρ : EnvD) : Option (List D) → Option (R Src)
  | some [.lst xs, .lst ys] => some (.ok (zipD xs ys, none) ρ)
  | some [.tup xs, .tup ys] => some (.ok (zipD xs ys, none) ρ)
  | _ => none
theorem vi_zip {es : Es} : evI P C (.zip es) ρ = bR (evl P C es ρ) fun ods ρ1 => if ods.all OD.isD = true then zipK ρ1 (views ρ1 ods) else none := by
  rw [evI]
  refine bindR_k fun ods ρ1 => ?_
  split
  · rfl
  · rfl
theorem zipK_l {xs ys : List D} : zipK ρ (some [.lst xs, .lst ys]) = some (.ok (zipD xs ys, none) ρ) := rfl
theorem zipK_t {xs ys : List D} : zipK ρ (some [.tup xs, .tup ys]) = some (.ok (zipD xs ys, none) ρ) := rfl
end
end Ev
/-! EvTable: tables as functions, ranges, shortest ways, metrics. -/
namespace Ev
noncomputable section
variable {P : Prog} {C : Orc} {ρ : EnvD} {mu : List Nat}
/-- a loop over a range -/
theorem for_R {t : Tg} {b : Ss} {src : List D} {lo : Int} {n : Nat} (I : Nat → EnvD → Prop) (h : ∀ i ρ, i < n → I i ρ → ∃ ρ', turn P C t b mu (.int (lo + (i : Int))) ρ = some (.nx ρ') ∧ I (i + 1) ρ') (h0 : I 0 ρ) :
    ∃ ρ', forK P C t b mu (src, none) (rngD lo n) ρ = some (.nx ρ') ∧ I n ρ' := by
  rw [rngD_map]
  obtain ⟨ρ', e, i⟩ := for_I (P := P) (C := C) (t := t) (b := b) (mu := mu) (src := src) (g := fun k : Nat => D.int (lo + (k : Nat))) (as := List.range n) (ρ := ρ) (fun pre ρ => I pre.length ρ) (fun pre a post ρ e i => by
    have hl : pre.length < n := by have := congrArg List.length e; simp at this; omega
    have ha : a = pre.length := by
      have : (List.range n)[pre.length]? = some a := by rw [e]; simp
      rw [List.getElem?_range hl] at this
      exact (Option.some.inj this).symm
    subst ha
    obtain ⟨ρ', e1, i1⟩ := h _ ρ hl i
    exact ⟨ρ', e1, by rw [List.length_append]; exact i1⟩) h0
  exact ⟨ρ', e, by simpa using i⟩
theorem for_R0 {t : Tg} {b : Ss} {src : List D} {n : Nat} (I : Nat → EnvD → Prop) (h : ∀ i ρ, i < n → I i ρ → ∃ ρ', turn P C t b mu (.int (i : Int)) ρ = some (.nx ρ') ∧ I (i + 1) ρ') (h0 : I 0 ρ) :
    ∃ ρ', forK P C t b mu (src, none) (rngD 0 n) ρ = some (.nx ρ') ∧ I n ρ' :=
  for_R I (fun i ρ hi j => by rw [Int.zero_add]; exact h i ρ hi j) h0
/-- a loop over a row of things -/
theorem for_G {t : Tg} {b : Ss} {src : List D} {g : Nat → D} {n : Nat} (I : Nat → EnvD → Prop) (h : ∀ i ρ, i < n → I i ρ → ∃ ρ', turn P C t b mu (g i) ρ = some (.nx ρ') ∧ I (i + 1) ρ') (h0 : I 0 ρ) :
    ∃ ρ', forK P C t b mu (src, none) ((List.range n).map g) ρ = some (.nx ρ') ∧ I n ρ' := by
  obtain ⟨ρ', e, i⟩ := for_I (P := P) (C := C) (t := t) (b := b) (mu := mu) (src := src) (g := g) (as := List.range n) (ρ := ρ) (fun pre ρ => I pre.length ρ) (fun pre a post ρ e i => by
    have hl : pre.length < n := by have := congrArg List.length e; simp at this; omega
    have ha : a = pre.length := by
      have : (List.range n)[pre.length]? = some a := by rw [e]; simp
      rw [List.getElem?_range hl] at this
      exact (Option.some.inj this).symm
    subst ha
    obtain ⟨ρ', e1, i1⟩ := h _ ρ hl i
    exact ⟨ρ', e1, by rw [List.length_append]; exact i1⟩) h0
  exact ⟨ρ', e, by simpa using i⟩
theorem rngD_0 {n : Nat} : rngD 0 n = (List.range n).map fun k : Nat => D.int (k : Int) := by
  rw [rngD_map]
  simp only [Int.zero_add]
/-- a comprehension over a range -/
theorem lc_R {b : Option Nat} {step : D → EnvD → Option (R (Option D))} {n : Nat} (f : Nat → D) (h : ∀ i, i < n → step (.int (i : Int)) ρ = some (.ok (some (f i)) ρ)) (hl : n ≤ most) : lcL b step (rngD 0 n) [] ρ = some (.ok ((List.range n).map f) ρ) := by
  rw [rngD_0]
  exact lcL_T f (fun i hi => h i (List.mem_range.mp hi)) (by simpa using hl)
theorem lc_RF {b : Option Nat} {step : D → EnvD → Option (R (Option D))} {n : Nat} (c : Nat → Bool) (h : ∀ i, i < n → step (.int (i : Int)) ρ = some (.ok (if c i = true then some (.int (i : Int)) else none) ρ)) (hl : n ≤ most) : lcL b step (rngD 0 n) [] ρ = some (.ok (((List.range n).filter c).map fun k : Nat => D.int (k : Int)) ρ) := by
  rw [rngD_0]
  exact lcL_F c (fun i hi => h i (List.mem_range.mp hi)) (by simpa using hl)
theorem lt_R {b : Option Nat} {step : D → EnvD → Option (R (List D))} {n : Nat} (f : Nat → List D) (h : ∀ i, i < n → step (.int (i : Int)) ρ = some (.ok (f i) ρ)) (hl : n ≤ most) : ltL b step (rngD 0 n) [] ρ = some (.ok ((List.range n).map f) ρ) := by
  rw [rngD_0]
  exact ltL_T f (fun i hi => h i (List.mem_range.mp hi)) (by simpa using hl)
theorem min_if {a b : Int} : (if b < a then b else a) = min a b := by split <;> omega
theorem max_if {a b : Int} : (if a < b then b else a) = max a b := by split <;> omega
theorem eraseIdx_map {α β : Type} (g : α → β) : ∀ (xs : List α) (j : Nat), (xs.map g).eraseIdx j = (xs.eraseIdx j).map g
  | [], j => by simp
  | x :: xs, 0 => by simp
  | x :: xs, j + 1 => by simp [List.eraseIdx_cons_succ, eraseIdx_map g xs j]
theorem pop_perm {α : Type} : ∀ (xs : List α) (j : Nat) (h : j < xs.length), (xs[j] :: xs.eraseIdx j).Perm xs
  | x :: xs, 0, _ => by simp
  | x :: xs, j + 1, h => by
    have h' : j < xs.length := by simpa using h
    have p := pop_perm xs j h'
    rw [List.getElem_cons_succ, List.eraseIdx_cons_succ]
    exact (List.Perm.swap x xs[j] _).trans (p.cons x)
theorem list_rg {α β : Type} {xs : List α} {d : α} {h : α → β} : xs.map h = (List.range xs.length).map fun i => h (xs.getD i d) := by
  apply List.ext_getElem?
  intro i
  rw [List.getElem?_map, List.getElem?_map]
  by_cases c : i < xs.length
  · rw [List.getElem?_range c, List.getElem?_eq_getElem c]
    simp [List.getD_eq_getElem?_getD, List.getElem?_eq_getElem c]
  · rw [List.getElem?_eq_none (by omega), List.getElem?_eq_none (by simpa using c)]; rfl
theorem nodup_getD {α : Type} {d : α} {xs : List α} (h : xs.Nodup) {i j : Nat} (hi : i < xs.length) (hj : j < xs.length) (e : xs.getD i d = xs.getD j d) : i = j := by
  rw [List.getD_eq_getElem?_getD, List.getD_eq_getElem?_getD, List.getElem?_eq_getElem hi, List.getElem?_eq_getElem hj] at e
  exact (List.getElem_inj h).mp e
theorem getD_mem {α : Type} {d : α} {xs : List α} {i : Nat} (hi : i < xs.length) : xs.getD i d ∈ xs := by
  rw [List.getD_eq_getElem?_getD, List.getElem?_eq_getElem hi]
  exact List.getElem_mem _
/-- a drawing comprehension over a range -/
theorem lc_RQ {β : Type} [Inhabited β] {step : D → EnvD → Option (R (Option D))} {n : Nat} (g : Nat → β → D) (I : EnvD → Prop) (Q : Nat → β → Prop) (h : ∀ i, i < n → ∀ ρ, I ρ → ∃ q ρ', step (.int (i : Int)) ρ = some (.ok (some (g i q)) ρ') ∧ I ρ' ∧ Q i q) (hl : n ≤ most) (h0 : I ρ) :
    ∃ (q : Nat → β) (ρ' : EnvD), lcL none step (rngD 0 n) [] ρ = some (.ok ((List.range n).map fun i => g i (q i)) ρ') ∧ I ρ' ∧ ∀ i, i < n → Q i (q i) := by
  have key : ∀ (post : List Nat) (acc : List D) (ρ : EnvD), post.Nodup → (∀ i ∈ post, i < n) → acc.length + post.length ≤ most → I ρ → ∃ (q : Nat → β) (ρ' : EnvD), lcL none step (post.map fun k : Nat => D.int (k : Int)) acc ρ = some (.ok (acc ++ post.map fun i => g i (q i)) ρ') ∧ I ρ' ∧ ∀ i ∈ post, Q i (q i) := by
    intro post
    induction post with
    | nil => intro acc ρ _ _ _ i; exact ⟨fun _ => default, ρ, by rw [List.map_nil, lcL]; simp, i, fun _ z => absurd z List.not_mem_nil⟩
    | cons a post ih =>
      intro acc ρ nd hi hl i
      obtain ⟨y, ρ1, e1, i1, q1⟩ := h a (hi a List.mem_cons_self) ρ i
      simp only [List.length_cons] at hl
      have nd' := List.nodup_cons.mp nd
      obtain ⟨q, ρ2, e2, i2, q2⟩ := ih (acc ++ [g a y]) ρ1 nd'.2 (fun j hj => hi j (List.mem_cons_of_mem _ hj)) (by rw [List.length_append]; simp; omega) i1
      refine ⟨fun j => if j = a then y else q j, ρ2, ?_, i2, fun j hj => ?_⟩
      · rw [List.map_cons, lcL, e1]
        simp only [bindR_ok]
        rw [if_pos (show same none ρ ρ1 from trivial), if_pos (by omega), e2, List.append_assoc, List.map_cons, if_pos rfl]
        have : (post.map fun i => g i (q i)) = post.map fun i => g i (if i = a then y else q i) := List.map_congr_left fun j hj => by
          have hne : j ≠ a := fun z => nd'.1 (by rw [← z]; exact hj)
          rw [if_neg hne]
        rw [this]
        rfl
      · rcases List.mem_cons.mp hj with rfl | hj
        · show Q j (if j = j then y else q j)
          rw [if_pos rfl]; exact q1
        · have hne : j ≠ a := fun z => nd'.1 (by rw [← z]; exact hj)
          show Q j (if j = a then y else q j)
          rw [if_neg hne]; exact q2 j hj
  obtain ⟨q, ρ', e, i, hq⟩ := key (List.range n) [] ρ List.nodup_range (fun i hi => List.mem_range.mp hi) (by simpa using hl) h0
  rw [rngD_0]
  exact ⟨q, ρ', by simpa using e, i, fun i hi => hq i (List.mem_range.mpr hi)⟩
/-! a comprehension, item by item -/
def lcO (o : Option D) (acc : List D) : Option (List D) := match o with
  | none => some acc
  | some y => if acc.length < most then some (acc ++ [y]) else none
theorem lcL_n {step : D → EnvD → Option (R (Option D))} {acc : List D} : lcL none step [] acc ρ = some (.ok acc ρ) := by rw [lcL]
theorem lcL_c {step : D → EnvD → Option (R (Option D))} {x : D} {xs acc : List D} : lcL none step (x :: xs) acc ρ = bR (step x ρ) fun o ρ' => bO (lcO o acc) fun acc' => lcL none step xs acc' ρ' := by
  rw [lcL]
  refine bindR_k fun o ρ' => ?_
  rw [if_pos (show same none ρ ρ' from trivial)]
  cases o with
  | none => rfl
  | some y =>
    dsimp only [lcO]
    split
    · rfl
    · rfl
theorem lcO_n {acc : List D} : lcO none acc = some acc := rfl
theorem lcO_0 {y : D} : lcO (some y) [] = some [y] := rfl
theorem lcO_1 {a y : D} : lcO (some y) [a] = some [a, y] := rfl
theorem lcO_2 {a b y : D} : lcO (some y) [a, b] = some [a, b, y] := rfl
theorem lcO_3 {a b c y : D} : lcO (some y) [a, b, c] = some [a, b, c, y] := rfl
theorem filter_succ {p : Nat → Bool} {u : Nat} : (List.range (u + 1)).filter p = (List.range u).filter p ++ (if p u = true then [u] else []) := by
  rw [List.range_succ, List.filter_append]
  congr 1
  by_cases h : p u = true
  · simp [h]
  · simp [h]
/-! ### tables -/
def tb (n : Nat) (g : Nat → Nat → D) : List (List D) := (List.range n).map fun x => (List.range n).map fun y => g x y
theorem tb_len {n : Nat} {g : Nat → Nat → D} : (tb n g).length = n := by unfold tb; simp
theorem tb_get {n : Nat} {g : Nat → Nat → D} {x : Nat} (h : x < n) : (tb n g)[x]? = some ((List.range n).map fun y => g x y) := by
  unfold tb
  rw [List.getElem?_map, List.getElem?_range h]; rfl
theorem rg_get {n : Nat} {g : Nat → D} {x : Nat} (h : x < n) : ((List.range n).map g)[x]? = some (g x) := by
  rw [List.getElem?_map, List.getElem?_range h]; rfl
theorem tb_ext {n : Nat} {g g' : Nat → Nat → D} (h : ∀ x y, x < n → y < n → g x y = g' x y) : tb n g = tb n g' := by
  unfold tb
  refine List.map_congr_left fun x hx => ?_
  exact List.map_congr_left fun y hy => h x y (List.mem_range.mp hx) (List.mem_range.mp hy)
theorem ix2_tb {n : Nat} {g : Nat → Nat → D} {x y : Nat} (hx : x < n) (hy : y < n) : ix2D (tb n g) (x : Int) (y : Int) = some (g x y) := by
  unfold ix2D
  rw [tb_len, ixD_nat hx]
  dsimp only
  rw [tb_get hx]
  dsimp only
  rw [List.length_map, List.length_range, ixD_nat hy]
  dsimp only
  exact rg_get hy
def up (g : Nat → Nat → D) (x y : Nat) (v : D) : Nat → Nat → D := fun i j => if i = x ∧ j = y then v else g i j
theorem rg_set {n : Nat} {g : Nat → D} {x : Nat} {v : D} (h : x < n) : ((List.range n).map g).set x v = (List.range n).map fun i => if i = x then v else g i := by
  apply List.ext_getElem?
  intro i
  rw [List.getElem?_set]
  by_cases c : x = i
  · subst c
    rw [if_pos rfl, List.length_map, List.length_range, if_pos h, rg_get h, if_pos rfl]
  · rw [if_neg c, List.getElem?_map, List.getElem?_map]
    by_cases d : i < n
    · rw [List.getElem?_range d]; simp [Ne.symm c]
    · rw [List.getElem?_eq_none (by simpa using d)]; rfl
theorem set2_tb {n : Nat} {g : Nat → Nat → D} {x y : Nat} {v : D} (hx : x < n) (hy : y < n) : set2D (tb n g) (x : Int) (y : Int) v = some (tb n (up g x y v)) := by
  unfold set2D
  rw [tb_len, ixD_nat hx]
  dsimp only
  rw [tb_get hx]
  dsimp only
  rw [List.length_map, List.length_range, ixD_nat hy]
  dsimp only
  rw [rg_set hy]
  congr 1
  apply List.ext_getElem?
  intro i
  rw [List.getElem?_set]
  by_cases c : x = i
  · subst c
    rw [if_pos rfl, tb_len, if_pos hx, tb_get hx]
    congr 1
    refine List.map_congr_left fun j _ => ?_
    unfold up
    by_cases e : j = y
    · simp [e]
    · simp [e]
  · rw [if_neg c]
    by_cases d : i < n
    · rw [tb_get d, tb_get d]
      congr 1
      refine List.map_congr_left fun j _ => ?_
      unfold up
      rw [if_neg (by intro z; exact c z.1.symm)]
    · rw [List.getElem?_eq_none (by rw [tb_len]; omega), List.getElem?_eq_none (by rw [tb_len]; omega)]
/-! ### rows of numbers -/
abbrev gI (f : Nat → Nat → Int) : Nat → Nat → D := fun x y => .int (f x y)
theorem ix2_I {n : Nat} {g : Nat → Nat → Int} {x y : Nat} (hx : x < n) (hy : y < n) : ix2D (tb n (gI g)) (x : Int) (y : Int) = some (.int (g x y)) := ix2_tb hx hy
def upI (g : Nat → Nat → Int) (x y : Nat) (v : Int) : Nat → Nat → Int := fun i j => if i = x ∧ j = y then v else g i j
theorem set2_I {n : Nat} {g : Nat → Nat → Int} {x y : Nat} {v : Int} (hx : x < n) (hy : y < n) : set2D (tb n (gI g)) (x : Int) (y : Int) (.int v) = some (tb n (gI (upI g x y v))) := by
  rw [set2_tb hx hy]
  congr 1
  refine tb_ext fun i j _ _ => ?_
  show up (gI g) x y (.int v) i j = D.int (upI g x y v i j)
  unfold up upI
  split <;> rfl
def rowT (n : Nat) (f : Nat → Nat → Int) (x : Nat) : D := .tup ((List.range n).map fun y => .int (f x y))
def rowsT (n : Nat) (f : Nat → Nat → Int) : List D := (List.range n).map (rowT n f)
theorem rowsT_len {n : Nat} {f : Nat → Nat → Int} : (rowsT n f).length = n := by unfold rowsT; simp
theorem ixT1 {n : Nat} {f : Nat → Nat → Int} {x : Nat} (hx : x < n) : idxD (.lst (rowsT n f)) (.int (x : Int)) = some (.ok (.fr (rowT n f x))) := by
  rw [ix_l, rowsT_len, ixD_nat hx, ixL_s]
  unfold rowsT
  rw [rg_get hx]; rfl
theorem ixT2 {n : Nat} {f : Nat → Nat → Int} {x y : Nat} (hy : y < n) : idxD (rowT n f x) (.int (y : Int)) = some (.ok (.fr (.int (f x y)))) := by
  unfold rowT
  rw [ix_t, List.length_map, List.length_range, ixD_nat hy, ixL_s, rg_get hy]; rfl
theorem rowsT_ext {n : Nat} {f f' : Nat → Nat → Int} (h : ∀ x y, x < n → y < n → f x y = f' x y) : rowsT n f = rowsT n f' := by
  unfold rowsT rowT
  refine List.map_congr_left fun x hx => ?_
  congr 1
  exact List.map_congr_left fun y hy => by rw [h x y (List.mem_range.mp hx) (List.mem_range.mp hy)]
/-- a metric of whole numbers -/
structure Met (n : Nat) (f : Nat → Nat → Int) : Prop where
  zero : ∀ x, x < n → f x x = 0
  sym : ∀ x y, x < n → y < n → f x y = f y x
  pos : ∀ x y, x < n → y < n → x ≠ y → 0 < f x y
  tri : ∀ x y z, x < n → y < n → z < n → f x z ≤ f x y + f y z
  le : ∀ x y, x < n → y < n → f x y ≤ 10000
theorem Met.nn {n : Nat} {f : Nat → Nat → Int} (m : Met n f) {x y : Nat} (hx : x < n) (hy : y < n) : 0 ≤ f x y := by
  by_cases c : x = y
  · subst c; rw [m.zero x hx]; decide
  · exact Int.le_of_lt (m.pos x y hx hy c)
theorem Met.ext {n : Nat} {f g : Nat → Nat → Int} (m : Met n f) (h : ∀ x y, x < n → y < n → g x y = f x y) : Met n g where
  zero := fun x hx => by rw [h x x hx hx]; exact m.zero x hx
  sym := fun x y hx hy => by rw [h x y hx hy, h y x hy hx]; exact m.sym x y hx hy
  pos := fun x y hx hy c => by rw [h x y hx hy]; exact m.pos x y hx hy c
  tri := fun x y z hx hy hz => by rw [h x y hx hy, h y z hy hz, h x z hx hz]; exact m.tri x y z hx hy hz
  le := fun x y hx hy => by rw [h x y hx hy]; exact m.le x y hx hy
/-- points taken out, each once -/
theorem Met.take {n m : Nat} {f : Nat → Nat → Int} (M : Met n f) {o : Nat → Nat} (hl : ∀ i, i < m → o i < n) (hi : ∀ i j, i < m → j < m → o i = o j → i = j) : Met m fun i j => f (o i) (o j) where
  zero := fun x hx => M.zero _ (hl x hx)
  sym := fun x y hx hy => M.sym _ _ (hl x hx) (hl y hy)
  pos := fun x y hx hy c => M.pos _ _ (hl x hx) (hl y hy) fun e => c (hi x y hx hy e)
  tri := fun x y z hx hy hz => M.tri _ _ _ (hl x hx) (hl y hy) (hl z hz)
  le := fun x y hx hy => M.le _ _ (hl x hx) (hl y hy)
/-! ### shortest ways -/
/-- the ways over the first points are no shorter -/
structure Way (n k : Nat) (f : Nat → Nat → Int) : Prop where
  zero : ∀ x, x < n → f x x = 0
  sym : ∀ x y, x < n → y < n → f x y = f y x
  pos : ∀ x y, x < n → y < n → x ≠ y → 0 < f x y
  tri : ∀ x y z, x < n → y < k → y < n → z < n → f x z ≤ f x y + f y z
  le : ∀ x y, x < n → y < n → f x y ≤ 10000
theorem Way.nn {n k : Nat} {f : Nat → Nat → Int} (m : Way n k f) {x y : Nat} (hx : x < n) (hy : y < n) : 0 ≤ f x y := by
  by_cases c : x = y
  · subst c; rw [m.zero x hx]; decide
  · exact Int.le_of_lt (m.pos x y hx hy c)
theorem Way.met {n : Nat} {f : Nat → Nat → Int} (m : Way n n f) : Met n f := ⟨m.zero, m.sym, m.pos, fun x y z hx hy hz => m.tri x y z hx hy hy hz, m.le⟩
theorem Way.step {n k : Nat} {f g : Nat → Nat → Int} (m : Way n k f) (hk : k < n) (h : ∀ x y, x < n → y < n → g x y = min (f x y) (f x k + f k y)) : Way n (k + 1) g where
  zero := fun x hx => by
    rw [h x x hx hx, m.zero x hx]
    have := m.nn hx hk
    have := m.nn hk hx
    omega
  sym := fun x y hx hy => by
    rw [h x y hx hy, h y x hy hx, m.sym x y hx hy, m.sym x k hx hk, m.sym k y hk hy]
    omega
  pos := fun x y hx hy c => by
    rw [h x y hx hy]
    have h1 := m.pos x y hx hy c
    have h2 := m.nn hx hk
    have h3 := m.nn hk hy
    by_cases d : x = k
    · have := m.pos k y hk hy (by omega)
      omega
    · have := m.pos x k hx hk d
      omega
  tri := fun x y z hx hy hyn hz => by
    rw [h x z hx hz, h x y hx hyn, h y z hyn hz]
    by_cases c : y = k
    · subst c
      rw [m.zero y hyn]
      have h2 := m.nn hx hyn
      have h3 := m.nn hyn hz
      omega
    · have hy' : y < k := by omega
      have t1 := m.tri x y z hx hy' hyn hz
      have t2 := m.tri k y z hk hy' hyn hz
      have t3 := m.tri x y k hx hy' hyn hk
      have n1 := m.nn hk hyn
      have n2 := m.nn hyn hk
      have n3 := m.nn hx hk
      have n4 := m.nn hk hz
      omega
  le := fun x y hx hy => by
    rw [h x y hx hy]
    have := m.le x y hx hy
    omega
end
end Ev
/-! EvMet: metrics of fractions. -/
namespace Ev
/-- a number times a fraction -/
def scl (a b z : Int) : Rat := Rat.divInt (z * a) b
section
variable {a b z w : Int}
theorem scl_eq : scl a b z = (z : Rat) * ((a : Rat) / (b : Rat)) := by
  unfold scl
  rw [Rat.divInt_eq_div, Rat.intCast_mul, Rat.div_def, Rat.div_def, Rat.mul_assoc]
theorem fac_pos (ha : 0 < a) (hb : 0 < b) : 0 < (a : Rat) / (b : Rat) := by
  rw [Rat.div_def]
  exact Rat.mul_pos (Rat.intCast_pos.mpr ha) (Rat.inv_pos.mpr (Rat.intCast_pos.mpr hb))
theorem scl_add : scl a b (z + w) = scl a b z + scl a b w := by rw [scl_eq, scl_eq, scl_eq, Rat.intCast_add, Rat.add_mul]
theorem scl_sub : scl a b (z - w) = scl a b z - scl a b w := by
  rw [Int.sub_eq_add_neg, scl_add, Rat.sub_eq_add_neg]
  congr 1
  rw [scl_eq, scl_eq, Rat.intCast_neg, Rat.neg_mul]
theorem scl_zero : scl a b 0 = 0 := by rw [scl_eq, Rat.intCast_zero, Rat.zero_mul]
theorem scl_lt (ha : 0 < a) (hb : 0 < b) : scl a b z < scl a b w ↔ z < w := by
  rw [scl_eq, scl_eq, Rat.mul_lt_mul_right (fac_pos ha hb)]
  exact Rat.intCast_lt_intCast
theorem scl_le (ha : 0 < a) (hb : 0 < b) : scl a b z ≤ scl a b w ↔ z ≤ w := by
  rw [← Rat.not_lt, scl_lt ha hb]; omega
theorem scl_inj (ha : 0 < a) (hb : 0 < b) : scl a b z = scl a b w ↔ z = w := by
  constructor
  · intro h
    have h1 := (scl_le ha hb (z := z) (w := w)).mp (by rw [h]; exact Rat.le_refl)
    have h2 := (scl_le ha hb (z := w) (w := z)).mp (by rw [h]; exact Rat.le_refl)
    omega
  · intro h; rw [h]
theorem scl_sq {m k : Nat} (hb : 0 < b) (h1 : Sz m z) (h2 : Sz k a) (h3 : Sz (m + k) b) : Sq (m + k) (scl a b z) := sq_divInt (by omega) (h1.mul h2) h3
end
/-- a metric, its numbers so small -/
structure MetQ (m n : Nat) (d : Nat → Nat → Rat) : Prop where
  zero : ∀ x, x < n → d x x = 0
  sym : ∀ x y, x < n → y < n → d x y = d y x
  pos : ∀ x y, x < n → y < n → x ≠ y → 0 < d x y
  tri : ∀ x y z, x < n → y < n → z < n → d x z ≤ d x y + d y z
  sq : ∀ x y, x < n → y < n → Sq m (d x y)
theorem Met.scl {n : Nat} {f : Nat → Nat → Int} {a b : Int} (M : Met n f) (ha : 0 < a) (ha4 : a ≤ 4) (hb : 0 < b) (hb3 : b ≤ 4) : MetQ 17 n fun x y => scl a b (f x y) where
  zero := fun x hx => by rw [M.zero x hx]; exact scl_zero
  sym := fun x y hx hy => by rw [M.sym x y hx hy]
  pos := fun x y hx hy c => by rw [← scl_zero (a := a) (b := b), scl_lt ha hb]; exact M.pos x y hx hy c
  tri := fun x y z hx hy hz => by rw [← scl_add, scl_le ha hb]; exact M.tri x y z hx hy hz
  sq := fun x y hx hy => scl_sq (m := 14) (k := 3) hb (by
    have := M.nn hx hy
    have := M.le x y hx hy
    unfold Sz; omega) (by unfold Sz; omega) (by unfold Sz; omega)
theorem MetQ.nn {m n : Nat} {d : Nat → Nat → Rat} (M : MetQ m n d) {x y : Nat} (hx : x < n) (hy : y < n) : 0 ≤ d x y := by
  by_cases c : x = y
  · subst c; rw [M.zero x hx]; exact Rat.le_refl
  · exact Rat.le_of_lt (M.pos x y hx hy c)
/-- a number's sign, as it is told -/
def sgQ (p : Rat) : Int := (if decide (0 < p.num) = true then 1 else 0) - (if decide (p.num < 0) = true then 1 else 0)
theorem num_pos {p : Rat} : 0 < p.num ↔ 0 < p := by rw [Rat.lt_iff]; simp
theorem num_neg {p : Rat} : p.num < 0 ↔ p < 0 := by rw [Rat.lt_iff]; simp
theorem sgQ_lt {p : Rat} : decide (sgQ p < 0) = decide (p < 0) := by
  rw [decide_eq_decide, ← num_neg]
  unfold sgQ
  simp only [decide_eq_true_eq]
  split <;> split <;> omega
theorem sgQ_le {p : Rat} : decide (sgQ p ≤ 0) = decide (p ≤ 0) := by
  rw [decide_eq_decide, ← Rat.not_lt, ← num_pos]
  unfold sgQ
  simp only [decide_eq_true_eq]
  split <;> split <;> omega
theorem sgQ_gt {p : Rat} : decide (0 < sgQ p) = decide (0 < p) := by
  rw [decide_eq_decide, ← num_pos]
  unfold sgQ
  simp only [decide_eq_true_eq]
  split <;> split <;> omega
theorem sgQ_eq {p : Rat} : decide (sgQ p = 0) = decide (p = 0) := by
  rw [decide_eq_decide, ← Rat.num_eq_zero]
  unfold sgQ
  simp only [decide_eq_true_eq]
  split <;> split <;> omega
end Ev
/-! EvFast: loops whose names behind them are known. -/
namespace Ev
noncomputable section
variable {α β : Type} {P : Prog} {C : Orc} {ρ : EnvD} {mu : List Nat} {t : Tg} {b : Ss} {src : List D}
theorem exec_frz {vs : List Nat} : exec P C (.frz vs) mu ρ = some (.nx (frzD ρ vs)) := by rw [exec]
theorem frzD_nil : frzD ρ [] = ρ := rfl
theorem frzD_cons {v : Nat} {vs : List Nat} : frzD ρ (v :: vs) = frzV (frzD ρ vs) v (get (frzD ρ vs) v) := rfl
theorem frzV_ow {i : Nat} {xs : List D} : frzV ρ i (some (.ow xs)) = ρ.set i (some (.fr (.lst xs))) := rfl
theorem frzV_tb {i : Nat} {xss : List (List D)} : frzV ρ i (some (.tb xss)) = ρ.set i (some (.fr (.lst (xss.map .lst)))) := rfl
theorem frzV_fr {i : Nat} {d : D} : frzV ρ i (some (.fr d)) = ρ := rfl
theorem exec_kill {vs : List Nat} : exec P C (.kill vs) mu ρ = some (.nx (wipeD ρ vs)) := by rw [exec]
/-- a range, gone through; the names at each turn -/
theorem for_E {n : Nat} (E : Nat → EnvD) (h : ∀ i, i < n → turn P C t b mu (.int (i : Int)) (E i) = some (.nx (E (i + 1)))) : forK P C t b mu (src, none) (rngD 0 n) (E 0) = some (.nx (E n)) := by
  obtain ⟨ρ', h1, h2⟩ := for_R0 (P := P) (C := C) (t := t) (b := b) (mu := mu) (src := src) (n := n) (ρ := E 0) (fun i ρ => ρ = E i) (fun i ρ hi e => by subst e; exact ⟨_, h i hi, rfl⟩) rfl
  rw [h1, h2]
theorem for_Elo {lo n : Nat} (E : Nat → EnvD) (h : ∀ i, i < n → turn P C t b mu (.int ((lo + i : Nat) : Int)) (E i) = some (.nx (E (i + 1)))) : forK P C t b mu (src, none) (rngD (lo : Int) n) (E 0) = some (.nx (E n)) := by
  obtain ⟨ρ', h1, h2⟩ := for_R (P := P) (C := C) (t := t) (b := b) (mu := mu) (src := src) (lo := (lo : Int)) (n := n) (ρ := E 0) (fun i ρ => ρ = E i) (fun i ρ hi e => by subst e; refine ⟨_, ?_, rfl⟩; have := h i hi; rw [Int.natCast_add] at this; exact this) rfl
  rw [h1, h2]
/-- a range, the names stay -/
theorem for_K {n : Nat} (h : ∀ i, i < n → turn P C t b mu (.int (i : Int)) ρ = some (.nx ρ)) : forK P C t b mu (src, none) (rngD 0 n) ρ = some (.nx ρ) := for_E (fun _ => ρ) h
theorem for_Klo {lo n : Nat} (h : ∀ i, lo ≤ i → i < lo + n → turn P C t b mu (.int (i : Int)) ρ = some (.nx ρ)) : forK P C t b mu (src, none) (rngD (lo : Int) n) ρ = some (.nx ρ) := for_Elo (fun _ => ρ) fun i hi => h (lo + i) (by omega) (by omega)
/-- items of any kind, gone through; the names by what was gone through -/
theorem for_P {g : α → D} (E : List α → EnvD) {as : List α} (h : ∀ pre a post, as = pre ++ a :: post → turn P C t b mu (g a) (E pre) = some (.nx (E (pre ++ [a])))) : forK P C t b mu (src, none) (as.map g) (E []) = some (.nx (E as)) := by
  obtain ⟨ρ', h1, h2⟩ := for_I (P := P) (C := C) (t := t) (b := b) (mu := mu) (src := src) (g := g) (as := as) (ρ := E []) (fun pre ρ => ρ = E pre) (fun pre a post ρ e z => by subst z; exact ⟨_, h pre a post e, rfl⟩) rfl
  rw [h1, h2]
/-- the same as a fold -/
theorem for_F {σ : Type} {g : α → D} (E : σ → EnvD) (f : σ → α → σ) {as : List α} {s : σ} (h : ∀ a ∈ as, ∀ s, turn P C t b mu (g a) (E s) = some (.nx (E (f s a)))) : forK P C t b mu (src, none) (as.map g) (E s) = some (.nx (E (as.foldl f s))) := by
  induction as generalizing s with
  | nil => exact for_nil
  | cons a as ih =>
    rw [List.map_cons, for_cons', h a List.mem_cons_self s]
    exact ih fun a ha => h a (List.mem_cons_of_mem _ ha)
theorem for_A {g : α → D} {as : List α} (h : ∀ a ∈ as, turn P C t b mu (g a) ρ = some (.nx ρ)) : forK P C t b mu (src, none) (as.map g) ρ = some (.nx ρ) := for_F (σ := Unit) (fun _ => ρ) (fun _ _ => ()) (s := ()) fun a ha _ => h a ha
/-- data, the names stay -/
theorem for_D {xs : List D} (h : ∀ x ∈ xs, turn P C t b mu x ρ = some (.nx ρ)) : forK P C t b mu (src, none) xs ρ = some (.nx ρ) := by
  have := for_A (P := P) (C := C) (t := t) (b := b) (mu := mu) (src := src) (ρ := ρ) (g := id) (as := xs) h
  rwa [List.map_id] at this
/-- a fold over data, with an invariant -/
theorem for_FI {σ : Type} {g : α → D} (E : σ → EnvD) (f : σ → α → σ) (I : σ → Prop) {as : List α} {s : σ} (h0 : I s) (h : ∀ a ∈ as, ∀ s, I s → turn P C t b mu (g a) (E s) = some (.nx (E (f s a))) ∧ I (f s a)) : forK P C t b mu (src, none) (as.map g) (E s) = some (.nx (E (as.foldl f s))) ∧ I (as.foldl f s) := by
  induction as generalizing s with
  | nil => exact ⟨for_nil, h0⟩
  | cons a as ih =>
    obtain ⟨h1, h2⟩ := h a List.mem_cons_self s h0
    rw [List.map_cons, for_cons', h1]
    exact ih h2 fun a ha => h a (List.mem_cons_of_mem _ ha)
/-- a loop that may be left by a return -/
theorem for_X {g : α → D} (ok : α → Bool) (e : α → EV) {as : List α} (h : ∀ a ∈ as, if ok a = true then turn P C t b mu (g a) ρ = some (.nx ρ) else ∃ ρ', turn P C t b mu (g a) ρ = some (.rt (e a) ρ')) :
    (as.all ok = true → forK P C t b mu (src, none) (as.map g) ρ = some (.nx ρ)) ∧ (∀ a, as.find? (fun a => !ok a) = some a → ∃ ρ', forK P C t b mu (src, none) (as.map g) ρ = some (.rt (e a) ρ')) := by
  induction as with
  | nil => exact ⟨fun _ => for_nil, fun a z => by cases z⟩
  | cons a as ih =>
    obtain ⟨i1, i2⟩ := ih fun a ha => h a (List.mem_cons_of_mem _ ha)
    have ha := h a List.mem_cons_self
    rw [List.map_cons]
    by_cases c : ok a = true
    · rw [if_pos c] at ha
      refine ⟨fun z => ?_, fun a' z => ?_⟩
      · rw [for_cons', ha]
        rw [List.all_cons, Bool.and_eq_true] at z
        exact i1 z.2
      · rw [for_cons', ha]
        rw [List.find?_cons_of_neg (by simp [c])] at z
        exact i2 a' z
    · rw [if_neg c] at ha
      obtain ⟨ρ', ha⟩ := ha
      refine ⟨fun z => ?_, fun a' z => ?_⟩
      · rw [List.all_cons, Bool.and_eq_true] at z
        exact absurd z.1 c
      · rw [List.find?_cons_of_pos (by simp [c])] at z
        cases z
        exact ⟨ρ', by rw [for_cons', ha]; rfl⟩
/-- one answer whichever item it is -/
theorem for_XB {g : α → D} (ok : α → Bool) (e : EV) {as : List α} (h : ∀ a ∈ as, if ok a = true then turn P C t b mu (g a) ρ = some (.nx ρ) else ∃ ρ', turn P C t b mu (g a) ρ = some (.rt e ρ')) :
    ∃ ρ', forK P C t b mu (src, none) (as.map g) ρ = if as.all ok = true then some (.nx ρ) else some (.rt e ρ') := by
  obtain ⟨h1, h2⟩ := for_X (src := src) ok (fun _ => e) h
  by_cases c : as.all ok = true
  · exact ⟨ρ, by rw [if_pos c]; exact h1 c⟩
  · obtain ⟨a, ha⟩ : ∃ a, as.find? (fun a => !ok a) = some a := by
      cases q : as.find? (fun a => !ok a) with
      | some a => exact ⟨a, rfl⟩
      | none =>
        exfalso; apply c
        rw [List.find?_eq_none] at q
        rw [List.all_eq_true]
        intro a ha
        have := q a ha
        simpa using this
    obtain ⟨ρ', e'⟩ := h2 a ha
    exact ⟨ρ', by rw [if_neg c]; exact e'⟩
theorem for_XR {n : Nat} (ok : Nat → Bool) (e : EV) (h : ∀ i, i < n → if ok i = true then turn P C t b mu (.int (i : Int)) ρ = some (.nx ρ) else ∃ ρ', turn P C t b mu (.int (i : Int)) ρ = some (.rt e ρ')) :
    ∃ ρ', forK P C t b mu (src, none) (rngD 0 n) ρ = if (List.range n).all ok = true then some (.nx ρ) else some (.rt e ρ') := by
  rw [rngD_0]
  exact for_XB ok e fun a ha => h a (List.mem_range.mp ha)
/-! ### the greatest, the least of integers -/
def mxI : List Int → Int
  | [] => 0
  | i :: r => r.foldl max i
def mnI : List Int → Int
  | [] => 0
  | i :: r => r.foldl min i
theorem mxI_ok {is : List Int} (h0 : is ≠ []) : mxI is ∈ is ∧ ∀ i ∈ is, i ≤ mxI is := by
  cases is with
  | nil => exact absurd rfl h0
  | cons i r =>
    obtain ⟨h1, h2, h3⟩ := fold_max r i
    refine ⟨?_, fun j hj => ?_⟩
    · show r.foldl max i ∈ _
      rcases h1 with h1 | h1
      · rw [h1]; exact List.mem_cons_self
      · exact List.mem_cons_of_mem _ h1
    · rcases List.mem_cons.mp hj with rfl | hj
      · exact h2
      · exact h3 j hj
theorem mnI_ok {is : List Int} (h0 : is ≠ []) : mnI is ∈ is ∧ ∀ i ∈ is, mnI is ≤ i := by
  cases is with
  | nil => exact absurd rfl h0
  | cons i r =>
    obtain ⟨h1, h2, h3⟩ := fold_min r i
    refine ⟨?_, fun j hj => ?_⟩
    · show r.foldl min i ∈ _
      rcases h1 with h1 | h1
      · rw [h1]; exact List.mem_cons_self
      · exact List.mem_cons_of_mem _ h1
    · rcases List.mem_cons.mp hj with rfl | hj
      · exact h2
      · exact h3 j hj
theorem best_mx {is : List Int} {d : D} (hd : seqD d = some (is.map .int)) (h0 : is ≠ []) (hl : is.length ≤ most) : bestD maxI d = some (.ok (.fr (.int (mxI is)))) := by
  cases is with
  | nil => exact absurd rfl h0
  | cons i r =>
    unfold bestD
    rw [hd]
    dsimp only
    rw [if_pos (by rw [List.length_map]; exact hl), ints_map]
    rfl
theorem best_mn {is : List Int} {d : D} (hd : seqD d = some (is.map .int)) (h0 : is ≠ []) (hl : is.length ≤ most) : bestD minI d = some (.ok (.fr (.int (mnI is)))) := by
  cases is with
  | nil => exact absurd rfl h0
  | cons i r =>
    unfold bestD
    rw [hd]
    dsimp only
    rw [if_pos (by rw [List.length_map]; exact hl), ints_map]
    rfl
theorem rg_ne {n : Nat} {α : Type} {g : Nat → α} (h : 1 ≤ n) : (List.range n).map g ≠ [] := fun z => by
  have := congrArg List.length z
  simp at this
  omega
/-- the greatest of a row of integers, its place known -/
theorem mx_rg {n : Nat} {g : Nat → Int} (h : 1 ≤ n) : (∃ x, x < n ∧ mxI ((List.range n).map g) = g x) ∧ ∀ x, x < n → g x ≤ mxI ((List.range n).map g) := by
  obtain ⟨h1, h2⟩ := mxI_ok (rg_ne (g := g) h)
  obtain ⟨x, hx, e⟩ := List.mem_map.mp h1
  exact ⟨⟨x, List.mem_range.mp hx, e.symm⟩, fun x hx => h2 _ (List.mem_map_of_mem (List.mem_range.mpr hx))⟩
theorem mn_rg {n : Nat} {g : Nat → Int} (h : 1 ≤ n) : (∃ x, x < n ∧ mnI ((List.range n).map g) = g x) ∧ ∀ x, x < n → mnI ((List.range n).map g) ≤ g x := by
  obtain ⟨h1, h2⟩ := mnI_ok (rg_ne (g := g) h)
  obtain ⟨x, hx, e⟩ := List.mem_map.mp h1
  exact ⟨⟨x, List.mem_range.mp hx, e.symm⟩, fun x hx => h2 _ (List.mem_map_of_mem (List.mem_range.mpr hx))⟩
/-- any and all over what was listed -/
theorem seq_l {xs : List D} : seqD (.lst xs) = some xs := rfl
theorem seq_t {xs : List D} : seqD (.tup xs) = some xs := rfl
end
end Ev
namespace Ev
noncomputable section
variable {P : Prog} {C : Orc} {ρ : EnvD}
/-! ### said on conditions, for a discharger -/
theorem rngK_c {n : Nat} (h : n ≤ 100000) : rngK ρ (some [.int (n : Int)]) = some (.ok (rngD 0 n, none) ρ) := by
  rw [rngK_n (by omega) (by omega), Int.toNat_natCast]
theorem rngK_cc {a b : Nat} (ha : a ≤ 100000) (hb : b ≤ 100000) : rngK ρ (some [.int (a : Int), .int (b : Int)]) = some (.ok (rngD (a : Int) (b - a), none) ρ) := by
  rw [rngK_ab (by omega) (by omega) (by omega) (by omega), show ((b : Int) - (a : Int)).toNat = b - a by omega]
theorem rngK_sc {a b : Nat} (ha : a ≤ 99999) (hb : b ≤ 100000) : rngK ρ (some [.int ((a : Int) + 1), .int (b : Int)]) = some (.ok (rngD ((a + 1 : Nat) : Int) (b - (a + 1)), none) ρ) := rngK_cc (a := a + 1) (by omega) hb
theorem rngK_s {n : Nat} (h : n ≤ 99999) : rngK ρ (some [.int ((n : Int) + 1)]) = some (.ok (rngD 0 (n + 1), none) ρ) := rngK_c (n := n + 1) (by omega)
theorem ixR_l {n k : Nat} {g : Nat → D} (h : k < n) : idxD (.lst ((List.range n).map g)) (.int (k : Int)) = some (.ok (.fr (g k))) := by
  rw [ix_l, List.length_map, List.length_range, ixD_nat h, ixL_s, rg_get h]; rfl
theorem ixR_t {n k : Nat} {g : Nat → D} (h : k < n) : idxD (.tup ((List.range n).map g)) (.int (k : Int)) = some (.ok (.fr (g k))) := by
  rw [ix_t, List.length_map, List.length_range, ixD_nat h, ixL_s, rg_get h]; rfl
/-- an item of a list of anything -/
theorem ixM_l {α : Type} {k : Nat} {g : α → D} {as : List α} {d : α} (h : k < as.length) : idxD (.lst (as.map g)) (.int (k : Int)) = some (.ok (.fr (g (as.getD k d)))) := by
  rw [list_rg (d := d)]; exact ixR_l h
theorem ixM_t {α : Type} {k : Nat} {g : α → D} {as : List α} {d : α} (h : k < as.length) : idxD (.tup (as.map g)) (.int (k : Int)) = some (.ok (.fr (g (as.getD k d)))) := by
  rw [list_rg (d := d)]; exact ixR_t h
theorem divOk_s {j : Int} (h0 : j ≠ 0) (h : j.natAbs < 2 ^ 60) : divOk j = true := divOk_of h0 (m := 60) h (by decide)
theorem dlt_t {a b : Int} (h : a < b) : decide (a < b) = true := decide_eq_true h
theorem dlt_f {a b : Int} (h : b ≤ a) : decide (a < b) = false := decide_eq_false (by omega)
theorem dle_t {a b : Int} (h : a ≤ b) : decide (a ≤ b) = true := decide_eq_true h
theorem dle_f {a b : Int} (h : b < a) : decide (a ≤ b) = false := decide_eq_false (by omega)
theorem deq_t {a b : Int} (h : a = b) : decide (a = b) = true := decide_eq_true h
theorem deq_f {a b : Int} (h : a ≠ b) : decide (a = b) = false := decide_eq_false h
theorem len_rg_l {α : Type} {g : α → D} {as : List α} : lenD (.lst (as.map g)) = some (.ok (.fr (.int (as.length : Int)))) := by rw [len_l, List.length_map]
theorem mapN_get {k : Nat} {g : Nat → D} {as : List Nat} (h : k < as.length) : (as.map g)[k]? = some (g (as.getD k 0)) := by
  rw [List.getElem?_map, List.getD_eq_getElem?_getD]
  rw [List.getElem?_eq_getElem h]; rfl
theorem mapI_get {k : Nat} {g : Int → D} {as : List Int} (h : k < as.length) : (as.map g)[k]? = some (g (as.getD k 0)) := by
  rw [List.getElem?_map, List.getD_eq_getElem?_getD]
  rw [List.getElem?_eq_getElem h]; rfl
theorem mapQ_get {k : Nat} {g : Rat → D} {as : List Rat} (h : k < as.length) : (as.map g)[k]? = some (g (as.getD k 0)) := by
  rw [List.getElem?_map, List.getD_eq_getElem?_getD]
  rw [List.getElem?_eq_getElem h]; rfl
/-- a range, some of it, made into something -/
theorem lc_RC {b : Option Nat} {step : D → EnvD → Option (R (Option D))} {n : Nat} (c : Nat → Bool) (f : Nat → D) (h : ∀ i, i < n → step (.int (i : Int)) ρ = some (.ok (if c i = true then some (f i) else none) ρ)) (hl : n ≤ most) : lcL b step (rngD 0 n) [] ρ = some (.ok (((List.range n).filter c).map f) ρ) := by
  rw [rngD_0, lcL_FM (fun i => if c i = true then some (f i) else none) (fun a ha => h a (List.mem_range.mp ha)) (by rw [List.length_range]; exact hl)]
  congr 2
  induction List.range n with
  | nil => rfl
  | cons x xs ih =>
    by_cases hc : c x = true
    · rw [List.filterMap_cons_some (by rw [if_pos hc]), List.filter_cons_of_pos hc, List.map_cons, ih]
    · rw [List.filterMap_cons_none (by rw [if_neg hc]), List.filter_cons_of_neg hc, ih]
theorem lc_C {α : Type} {b : Option Nat} {step : D → EnvD → Option (R (Option D))} {g : α → D} {as : List α} (c : α → Bool) (f : α → D) (h : ∀ a ∈ as, step (g a) ρ = some (.ok (if c a = true then some (f a) else none) ρ)) (hl : as.length ≤ most) : lcL b step (as.map g) [] ρ = some (.ok ((as.filter c).map f) ρ) := by
  rw [lcL_FM (fun i => if c i = true then some (f i) else none) h hl]
  congr 2
  clear h hl
  induction as with
  | nil => rfl
  | cons x xs ih =>
    by_cases hc : c x = true
    · rw [List.filterMap_cons_some (by rw [if_pos hc]), List.filter_cons_of_pos hc, List.map_cons, ih]
    · rw [List.filterMap_cons_none (by rw [if_neg hc]), List.filter_cons_of_neg hc, ih]
theorem most_eq : most = 1000000 := rfl
end
/-! ### in -/
theorem any_ints {x : Int} : ∀ is : List Int, ((is.map PySem.PyData.int).any fun y => PySem.PyData.eqv y (.int x)) = decide (x ∈ is)
  | [] => rfl
  | i :: is => by
    rw [List.map_cons, List.any_cons, any_ints is]
    have e : PySem.PyData.eqv (.int i) (.int x) = (i == x) := by rw [PySem.PyData.eqv]
    rw [e]
    by_cases h : x = i
    · subst h; simp
    · have : (i == x) = false := beq_eq_false_iff_ne.mpr fun z => h z.symm
      rw [this, Bool.false_or, decide_eq_decide, List.mem_cons]
      simp [h]
theorem pl_int {n : Nat} {i : Int} : pl n (.int i) = true := by cases n <;> rfl
theorem in_It {x : Int} {is : List Int} : inD (.int x) (.tup (is.map .int)) = some (decide (x ∈ is)) := by
  unfold inD
  simp only [pl_int, pls_ints, Bool.and_self, if_true, pyDs_ints]
  congr 1
  exact any_ints is
theorem in_Il {x : Int} {is : List Int} : inD (.int x) (.lst (is.map .int)) = some (decide (x ∈ is)) := by
  unfold inD
  simp only [pl_int, pls_ints, Bool.and_self, if_true, pyDs_ints]
  congr 1
  exact any_ints is
theorem memN {x : Nat} {im : List Nat} : decide ((x : Int) ∈ im.map fun u : Nat => (u : Int)) = decide (x ∈ im) := by
  rw [decide_eq_decide, List.mem_map]
  constructor
  · rintro ⟨u, hu, e⟩
    have : u = x := by omega
    exact this ▸ hu
  · exact fun h => ⟨x, h, rfl⟩
theorem castN {im : List Nat} : (im.map fun u : Nat => D.int (u : Int)) = (im.map fun u : Nat => (u : Int)).map .int := by rw [List.map_map]; rfl
theorem in_Nt {x : Nat} {im : List Nat} : inD (.int (x : Int)) (.tup (im.map fun u : Nat => D.int (u : Int))) = some (decide (x ∈ im)) := by
  rw [castN, in_It, memN]
theorem in_Nl {x : Nat} {im : List Nat} : inD (.int (x : Int)) (.lst (im.map fun u : Nat => D.int (u : Int))) = some (decide (x ∈ im)) := by
  rw [castN, in_Il, memN]
theorem o_tup0 {P : Prog} {C : Orc} : opS P C .tup [] = some (.ok (.fr (.tup []))) := rfl
/-! ### rows of numbers grown by one more -/
section
/-- each row, with each number that fits behind it -/
def extB (c : List Nat → Nat → Bool) (n : Nat) (fs : List (List Nat)) : List (List Nat) := fs.flatMap fun im => ((List.range n).filter (c im)).map fun y => im ++ [y]
def growB (c : List Nat → Nat → Bool) (n : Nat) : Nat → List (List Nat)
  | 0 => [[]]
  | k + 1 => extB c n (growB c n k)
variable {c c' : List Nat → Nat → Bool} {n k : Nat}
theorem extB_snoc {fs : List (List Nat)} {im : List Nat} : extB c n (fs ++ [im]) = extB c n fs ++ ((List.range n).filter (c im)).map fun y => im ++ [y] := by
  unfold extB
  rw [List.flatMap_append, List.flatMap_cons, List.flatMap_nil, List.append_nil]
theorem extB_mem {fs : List (List Nat)} {im : List Nat} : im ∈ extB c n fs ↔ ∃ r y, r ∈ fs ∧ y < n ∧ c r y = true ∧ im = r ++ [y] := by
  unfold extB
  rw [List.mem_flatMap]
  constructor
  · rintro ⟨r, hr, h⟩
    obtain ⟨y, hy, rfl⟩ := List.mem_map.mp h
    obtain ⟨h1, h2⟩ := List.mem_filter.mp hy
    exact ⟨r, y, hr, List.mem_range.mp h1, h2, rfl⟩
  · rintro ⟨r, y, hr, hy, hc, rfl⟩
    exact ⟨r, hr, List.mem_map.mpr ⟨y, List.mem_filter.mpr ⟨List.mem_range.mpr hy, hc⟩, rfl⟩⟩
theorem growB_in : ∀ {k : Nat} {im : List Nat}, im ∈ growB c n k → im.length = k ∧ ∀ z, z < im.length → im.getD z 0 < n
  | 0, im, h => by
    have : im = [] := by simpa [growB] using h
    subst this
    exact ⟨rfl, fun z hz => absurd hz (Nat.not_lt_zero _)⟩
  | k + 1, im, h => by
    obtain ⟨r, y, hr, hy, hc, rfl⟩ := extB_mem.mp h
    obtain ⟨h1, h2⟩ := growB_in hr
    refine ⟨by simp [h1], fun z hz => ?_⟩
    rw [List.getD_eq_getElem?_getD]
    by_cases q : z < r.length
    · rw [List.getElem?_append_left q]
      have := h2 z q
      rwa [List.getD_eq_getElem?_getD] at this
    · have e : z = r.length := by
        rw [List.length_append] at hz
        simp at hz
        omega
      subst e
      simp [hy]
theorem extB_le {fs : List (List Nat)} : (extB c n fs).length ≤ n * fs.length := by
  induction fs with
  | nil => simp [extB]
  | cons r fs ih =>
    have e : extB c n (r :: fs) = ((List.range n).filter (c r)).map (fun y => r ++ [y]) ++ extB c n fs := by unfold extB; rw [List.flatMap_cons]
    rw [e, List.length_append, List.length_map, List.length_cons, Nat.mul_add, Nat.mul_one]
    have := List.length_filter_le (c r) (List.range n)
    rw [List.length_range] at this
    omega
theorem growB_le : ∀ {k : Nat}, (growB c n k).length ≤ n ^ k
  | 0 => by simp [growB]
  | k + 1 => by
    refine Nat.le_trans extB_le ?_
    rw [Nat.pow_succ, Nat.mul_comm]
    exact Nat.mul_le_mul_right _ growB_le
theorem growB_most {N : Nat} (hn : n ≤ N) (hk : k ≤ N) (hN : 1 ≤ N) : (growB c n k).length ≤ N ^ N :=
  Nat.le_trans growB_le (Nat.le_trans (Nat.pow_le_pow_left hn _) (Nat.pow_le_pow_right hN hk))
/-- grown with a test that says more: the same as grown and looked through -/
theorem grow_filter (good : List Nat → Bool) (h0 : good [] = true) (hs : ∀ r y, y < n → c' r y = true → good (r ++ [y]) = (good r && (c r y))) (hc : ∀ r y, y < n → c r y = true → c' r y = true) : ∀ k, growB c n k = (growB c' n k).filter good
  | 0 => by simp [growB, h0]
  | k + 1 => by
    show extB c n (growB c n k) = (extB c' n (growB c' n k)).filter good
    rw [grow_filter good h0 hs hc k]
    generalize growB c' n k = fs
    unfold extB
    induction fs with
    | nil => rfl
    | cons r fs ih =>
      rw [List.flatMap_cons, List.filter_append, ← ih]
      have e : (((List.range n).filter (c' r)).map fun y => r ++ [y]).filter good = if good r = true then ((List.range n).filter (c r)).map (fun y => r ++ [y]) else [] := by
        rw [List.filter_map, List.filter_filter]
        by_cases g : good r = true
        · rw [if_pos g]
          congr 1
          refine List.filter_congr fun y hy => ?_
          have hy := List.mem_range.mp hy
          show (good (r ++ [y]) && c' r y) = c r y
          cases q : c' r y with
          | true => rw [hs r y hy q, g, Bool.true_and, Bool.and_true]
          | false =>
            cases q2 : c r y with
            | false => simp
            | true => rw [hc r y hy q2] at q; cases q
        · rw [if_neg g]
          have : (List.range n).filter (fun a => (good ∘ fun y => r ++ [y]) a && c' r a) = [] := by
            rw [List.filter_eq_nil_iff]
            intro y hy
            have hy := List.mem_range.mp hy
            show ¬ (good (r ++ [y]) && c' r y) = true
            cases q : c' r y with
            | false => simp
            | true => rw [hs r y hy q]; simp [g]
          rw [this]; rfl
      rw [e]
      by_cases g : good r = true
      · rw [if_pos g, List.filter_cons_of_pos g, List.flatMap_cons]
      · rw [if_neg g, List.filter_cons_of_neg g, List.nil_append]
end
end Ev
namespace Ev
noncomputable section
variable {P : Prog} {C : Orc} {ρ : EnvD} {f : Nat} {F : Fn}
theorem okM_n {j : Nat} : okM [] j [] = true := rfl
theorem okM_dd {j : Nat} {d : D} {os : List OD} : okM [] j (.d d :: os) = okM [] (j + 1) os := rfl
theorem okM_bb {j i : Nat} {os : List OD} : okM [] j (.b i :: os) = okM [] (j + 1) os := rfl
theorem ap_o (hF : P.fn f = some F) (hmu : F.mu = []) {ods : List OD} : apply P C f ods ρ = if okM [] 0 ods = true then bO (args ρ ods) fun as => putR (ods.any OD.isB) [] ρ (C f as) else none := by
  rw [apply_on hF]
  unfold callE
  rw [hmu]
  show bO (some []) _ = _
  simp only [bO]
  by_cases h : okM [] 0 ods = true
  · rw [if_pos h, if_pos (by simp [h, nodupB])]
  · rw [if_neg h, if_neg (by simp [h])]
theorem putR_p {e : EV} (h : e.plain = true) : putR true [] ρ (some (.ret e [])) = some (.ok e ρ) := by
  unfold putR
  simp only [h, Bool.not_true, Bool.and_false, Bool.false_eq_true, if_false]
  rfl
theorem pl_bl {b : Bool} : (EV.fr (.bl b)).plain = true := rfl
theorem pl_i {b : Int} : (EV.fr (.int b)).plain = true := rfl
end
end Ev
namespace Ev
noncomputable section
variable {P : Prog} {C : Orc} {ρ : EnvD} {mu : List Nat} {t : Tg} {b : Ss} {src : List D}
/-- a range, gone through or left -/
theorem for_IX {n : Nat} (I : Nat → EnvD → Prop) (Q : EV → Prop) (h : ∀ i ρ, i < n → I i ρ → (∃ ρ', turn P C t b mu (.int (i : Int)) ρ = some (.nx ρ') ∧ I (i + 1) ρ') ∨ ∃ v ρ', turn P C t b mu (.int (i : Int)) ρ = some (.rt v ρ') ∧ Q v) (h0 : I 0 ρ) :
    (∃ ρ', forK P C t b mu (src, none) (rngD 0 n) ρ = some (.nx ρ') ∧ I n ρ') ∨ ∃ v ρ', forK P C t b mu (src, none) (rngD 0 n) ρ = some (.rt v ρ') ∧ Q v := by
  rw [rngD_0]
  have key : ∀ (m i : Nat) (ρ : EnvD), i + m = n → I i ρ → (∃ ρ', forK P C t b mu (src, none) (((List.range n).drop i).map fun k : Nat => D.int (k : Int)) ρ = some (.nx ρ') ∧ I n ρ') ∨ ∃ v ρ', forK P C t b mu (src, none) (((List.range n).drop i).map fun k : Nat => D.int (k : Int)) ρ = some (.rt v ρ') ∧ Q v := by
    intro m
    induction m with
    | zero =>
      intro i ρ e hi
      have : i = n := by omega
      subst this
      rw [List.drop_of_length_le (by simp)]
      exact .inl ⟨ρ, for_nil, hi⟩
    | succ m ih =>
      intro i ρ e hi
      have hin : i < n := by omega
      rw [List.drop_eq_getElem_cons (by simpa using hin), List.map_cons, List.getElem_range, for_cons']
      rcases h i ρ hin hi with ⟨ρ1, e1, i1⟩ | ⟨v, ρ1, e1, q⟩
      · rw [e1]
        exact ih (i + 1) ρ1 (by omega) i1
      · rw [e1]
        exact .inr ⟨v, ρ1, rfl, q⟩
  have := key n 0 ρ (by omega) h0
  simpa using this
theorem zip_rg {n : Nat} {f g : Nat → D} : zipD ((List.range n).map f) ((List.range n).map g) = (List.range n).map fun j => .tup [f j, g j] := by
  induction List.range n with
  | nil => rfl
  | cons x xs ih => rw [List.map_cons, List.map_cons, List.map_cons, zipD, ih]
end
theorem eraseIdx_rg {α : Type} {n p : Nat} {g : Nat → α} (hp : p < n + 1) : ((List.range (n + 1)).map g).eraseIdx p = (List.range n).map fun i => g (if i < p then i else i + 1) := by
  apply List.ext_getElem
  · rw [List.length_eraseIdx]
    simp [hp]
  · intro i h1 h2
    simp only [List.length_map, List.length_range] at h2
    rw [List.getElem_eraseIdx]
    by_cases c : i < p
    · simp [c]
    · simp [c]
end Ev
namespace Ev
noncomputable section
variable {ρ : EnvD}
theorem ixD_z {n : Nat} : ixD (n + 1) 0 = some 0 := by
  unfold ixD
  rw [if_pos (by decide), if_pos (by omega)]; rfl
theorem popK_rg {i n j : Nat} {g : Nat → D} (h : j < n) (hl : n ≤ 1000000) : popK ρ i ((List.range n).map g) (j : Int) = some (.ok (.fr (g j)) (ρ.set i (some (.ow (((List.range n).map g).eraseIdx j))))) :=
  popK_s (by simpa [most] using hl) (by rw [List.length_map, List.length_range]; exact ixD_nat h) (rg_get h)
theorem fmod_two {p : Nat} : decide ((p : Int).fmod 2 = 1) = decide (p % 2 = 1) := by
  rw [decide_eq_decide, Int.fmod_eq_emod_of_nonneg _ (by decide)]
  omega
end
end Ev
namespace Ev
noncomputable section
variable {P : Prog} {C : Orc} {ρ : EnvD} {mu : List Nat}
theorem o_shl {a b : D} : opS P C .shl [a, b] = shlD a b := rfl
theorem k_shl : Op.keeps .shl = false := rfl
theorem shl_i {i : Int} {k : Nat} (h : i.natAbs < 2 ^ 64) (hk : k ≤ 1000000) : shlD (.int i) (.int (k : Int)) = some (.ok (.fr (.int (i * 2 ^ k)))) := by
  show (if 0 ≤ (k : Int) ∧ (k : Int) ≤ 1000000 ∧ i.natAbs < 2 ^ 64 then valA (.int (i * 2 ^ (k : Int).toNat)) else none) = _
  rw [if_pos ⟨by omega, by omega, h⟩, Int.toNat_natCast]; rfl
theorem mul_t {xs : List D} {k : Nat} (h : 1 ≤ k ∧ k ≤ 1000) (h2 : xs ≠ [] ∧ xs.length ≤ 1000) : mulD P C (.tup xs) (.int (k : Int)) = some (.ok (.fr (.tup (List.replicate k xs).flatten))) := by
  show (if (1 ≤ (k : Int) ∧ (k : Int) ≤ 1000) ∧ (xs ≠ [] ∧ xs.length ≤ 1000) then valA (.tup (List.replicate (k : Int).toNat xs).flatten) else none) = _
  rw [if_pos ⟨by omega, h2⟩, Int.toNat_natCast]; rfl
theorem mul_l {xs : List D} {k : Nat} (h : k ≤ 1000) (h2 : xs.length ≤ 1000) : mulD P C (.lst xs) (.int (k : Int)) = some (.ok (.ow (List.replicate k xs).flatten)) := by
  show (if (0 ≤ (k : Int) ∧ (k : Int) ≤ 1000) ∧ xs.length ≤ 1000 then some (An.ok (EV.ow (List.replicate (k : Int).toNat xs).flatten)) else none) = _
  rw [if_pos ⟨by omega, h2⟩, Int.toNat_natCast]
theorem rep1 {k : Nat} {x : D} : (List.replicate k [x]).flatten = List.replicate k x := by
  induction k with
  | zero => rfl
  | succ k ih => rw [List.replicate_succ, List.flatten_cons, ih, List.replicate_succ]; rfl
def extK (ρ : EnvD) (i : Nat) : Option EV → D → Option F
  | some (.ow xs), .lst ys => if xs.length + ys.length ≤ most then some (.nx (ρ.set i (some (.ow (xs ++ ys))))) else none
  | _, _ => none
theorem extK_s {i : Nat} {xs ys : List D} (h : xs.length + ys.length ≤ most) : extK ρ i (some (.ow xs)) (.lst ys) = some (.nx (ρ.set i (some (.ow (xs ++ ys))))) := if_pos h
theorem exec_ext {i : Nat} {e : E} : exec P C (.ext i e) mu ρ = if owns (get ρ i) = true then bF (ev P C e ρ) fun v ρ1 => extK ρ1 i (get ρ1 i) v.fz else none := by
  rw [exec]
  have e2 : ∀ (v : EV) (ρ1 : EnvD), extE ρ1 i v.fz = extK ρ1 i (get ρ1 i) v.fz := fun v ρ1 => by
    unfold extE extK
    rfl
  split
  · rename_i xs h1
    rw [h1, if_pos (show owns (some (EV.ow xs)) = true from rfl)]
    show bindF _ _ = bindF _ _
    congr 1
  · rename_i h1
    rw [if_neg]
    intro z
    revert z h1
    cases get ρ i with
    | none => intro _ z; cases z
    | some v => cases v <;> first | (intro h1 _; exact absurd rfl (h1 _)) | (intro _ z; cases z)
end
end Ev
/-! EvMath: plain facts, no program in sight. -/
namespace Ev
theorem MetQ.mulR {m h n : Nat} {d : Nat → Nat → Rat} {c : Rat} (M : MetQ m n d) (hc : 0 < c) (S : Sq h c) : MetQ (m + h) n fun x y => d x y * c where
  zero := fun x hx => by rw [M.zero x hx, Rat.zero_mul]
  sym := fun x y hx hy => by rw [M.sym x y hx hy]
  pos := fun x y hx hy e => Rat.mul_pos (M.pos x y hx hy e) hc
  tri := fun x y z hx hy hz => by
    rw [← Rat.add_mul]
    exact Rat.mul_le_mul_of_nonneg_right (M.tri x y z hx hy hz) (Rat.le_of_lt hc)
  sq := fun x y hx hy => (M.sq x y hx hy).mul S
end Ev
namespace Ev
noncomputable section
theorem boolsOf_map {α : Type} (c : α → Bool) : ∀ as : List α, boolsOf (as.map fun a => D.bl (c a)) = some (as.map c)
  | [] => rfl
  | a :: as => by
    rw [List.map_cons, List.map_cons]
    show (boolsOf (as.map fun a => D.bl (c a))).map (c a :: ·) = _
    rw [boolsOf_map c as]; rfl
theorem all_m {α : Type} {c : α → Bool} {as : List α} : boolsD (fun bs => bs.all id) (.lst (as.map fun a => D.bl (c a))) = some (.ok (.fr (.bl (as.all c)))) := by
  show boolA ((boolsOf (as.map fun a => D.bl (c a))).map _) = _
  rw [boolsOf_map]
  show boolA (some ((as.map c).all id)) = _
  rw [List.all_map]; rfl
theorem any_m {α : Type} {c : α → Bool} {as : List α} : boolsD (fun bs => bs.any id) (.lst (as.map fun a => D.bl (c a))) = some (.ok (.fr (.bl (as.any c)))) := by
  show boolA ((boolsOf (as.map fun a => D.bl (c a))).map _) = _
  rw [boolsOf_map]
  show boolA (some ((as.map c).any id)) = _
  rw [List.any_map]; rfl
/-- a sum of integers -/
theorem sum_m {α : Type} {g : α → Int} {as : List α} : sumD (.lst (as.map fun a => D.int (g a))) = some (.ok (.fr (.int (as.map g).sum))) := by
  show (intsOf (as.map fun a => D.int (g a))).bind _ = _
  have : (as.map fun a => D.int (g a)) = (as.map g).map D.int := by rw [List.map_map]; rfl
  rw [this, ints_map]; rfl
theorem mx_m {α : Type} {g : α → Int} {as : List α} (h0 : as ≠ []) (hl : as.length ≤ most) : bestD maxI (.lst (as.map fun a => D.int (g a))) = some (.ok (.fr (.int (mxI (as.map g))))) := by
  refine best_mx (by rw [List.map_map]; rfl) (by simpa using h0) (by simpa using hl)
theorem mn_m {α : Type} {g : α → Int} {as : List α} (h0 : as ≠ []) (hl : as.length ≤ most) : bestD minI (.lst (as.map fun a => D.int (g a))) = some (.ok (.fr (.int (mnI (as.map g))))) := by
  refine best_mn (by rw [List.map_map]; rfl) (by simpa using h0) (by simpa using hl)
end
end Ev
namespace Ev
section
theorem scl_pos {a b z : Int} (ha : 0 < a) (hb : 0 < b) (hz : 0 < z) : 0 < scl a b z := by
  rw [← scl_zero (a := a) (b := b), scl_lt ha hb]; exact hz
theorem scl_sim {a0 b0 a1 b1 z w p q : Int} (ha0 : 0 < a0) (hb0 : 0 < b0) (ha1 : 0 < a1) (hb1 : 0 < b1) (hq : 0 < q) : scl a0 b0 z * (scl a1 b1 p / scl a0 b0 q) = scl a1 b1 w ↔ z * p = w * q := by
  have h1 := fac_pos ha0 hb0
  have h2 := fac_pos ha1 hb1
  have h3 : (0 : Rat) < (q : Rat) := Rat.intCast_pos.mpr hq
  rw [scl_eq, scl_eq, scl_eq, scl_eq]
  generalize (a0 : Rat) / (b0 : Rat) = A at *
  generalize (a1 : Rat) / (b1 : Rat) = B at *
  have e : z * p = w * q ↔ (z : Rat) * p = w * q := by
    rw [← Rat.intCast_mul, ← Rat.intCast_mul, Rat.intCast_inj]
  rw [e]
  generalize (z : Rat) = z at *
  generalize (p : Rat) = p at *
  generalize (w : Rat) = w at *
  generalize (q : Rat) = q at *
  have a : A ≠ 0 := fun h => by rw [h] at h1; exact Rat.lt_irrefl h1
  have b : B ≠ 0 := fun h => by rw [h] at h2; exact Rat.lt_irrefl h2
  have c : q ≠ 0 := fun h => by rw [h] at h3; exact Rat.lt_irrefl h3
  clear h1 h2 h3 e
  grind
theorem scl_quot {a0 b0 a1 b1 p q : Int} (ha0 : 0 < a0) (hb0 : 0 < b0) (ha1 : 0 < a1) (hb1 : 0 < b1) (hq : 0 < q) : Rat.divInt (p * a1 * b0) (q * b1 * a0) = scl a1 b1 p / scl a0 b0 q := by
  rw [scl_eq, scl_eq, Rat.divInt_eq_div]
  have h0 : (a0 : Rat) ≠ 0 := fun h => by have := Rat.intCast_eq_zero_iff.mp h; omega
  have h1 : (b0 : Rat) ≠ 0 := fun h => by have := Rat.intCast_eq_zero_iff.mp h; omega
  have h2 : (a1 : Rat) ≠ 0 := fun h => by have := Rat.intCast_eq_zero_iff.mp h; omega
  have h3 : (b1 : Rat) ≠ 0 := fun h => by have := Rat.intCast_eq_zero_iff.mp h; omega
  have h4 : (q : Rat) ≠ 0 := fun h => by have := Rat.intCast_eq_zero_iff.mp h; omega
  simp only [Rat.intCast_mul]
  generalize (a0 : Rat) = a0 at *
  generalize (b0 : Rat) = b0 at *
  generalize (a1 : Rat) = a1 at *
  generalize (b1 : Rat) = b1 at *
  generalize (p : Rat) = p at *
  generalize (q : Rat) = q at *
  grind
end
end Ev
namespace Ev
/-! ### pushed down -/
/-- the greatest of 0 and of what the others ask -/
def pmx (n : Nat) (d : Nat → Nat → Rat) (o : Nat → Rat) (x : Nat) : Rat := (0 :: ((List.range n).filter fun y => !decide (y = x)).map fun y => d x y - o y).foldl mxQ 0
def pushQ (n : Nat) (d : Nat → Nat → Rat) (g : Nat → Rat) : Nat → Nat → Rat
  | 0 => g
  | x + 1 => fun i => if i = x then pmx n d (pushQ n d g x) x else pushQ n d g x i
section
variable {m h n : Nat} {d : Nat → Nat → Rat} {g o : Nat → Rat} {x : Nat}
theorem pmx_max : IsMax (pmx n d o x) (0 :: ((List.range n).filter fun y => !decide (y = x)).map fun y => d x y - o y) := mx_max
theorem pmx_ge (hn : x < n) : 0 ≤ pmx n d o x ∧ ∀ y, y < n → y ≠ x → d x y - o y ≤ pmx n d o x := by
  have := (pmx_max (n := n) (d := d) (o := o) (x := x)).2
  refine ⟨this 0 List.mem_cons_self, fun y hy e => this _ (List.mem_cons_of_mem _ (List.mem_map.mpr ⟨y, List.mem_filter.mpr ⟨List.mem_range.mpr hy, by simpa using e⟩, rfl⟩))⟩
theorem pmx_is : pmx n d o x = 0 ∨ ∃ y, y < n ∧ y ≠ x ∧ pmx n d o x = d x y - o y := by
  rcases List.mem_cons.mp (pmx_max (n := n) (d := d) (o := o) (x := x)).1 with h | h
  · exact .inl h
  · obtain ⟨y, hy, e⟩ := List.mem_map.mp h
    obtain ⟨h1, h2⟩ := List.mem_filter.mp hy
    exact .inr ⟨y, List.mem_range.mp h1, by simpa using h2, e.symm⟩
theorem pmx_sq (M : MetQ m n d) (S : ∀ y, y < n → Sq h (o y)) (hx : x < n) : Sq (m + h + 1) (pmx n d o x) := by
  rcases pmx_is (n := n) (d := d) (o := o) (x := x) with e | ⟨y, hy, _, e⟩
  · rw [e]; exact sq_zero.mono (by omega)
  · rw [e]; exact (M.sq x y hx hy).sub (S y hy)
theorem pushQ_sq (M : MetQ m n d) (S : ∀ y, y < n → Sq h (g y)) : ∀ k, k ≤ n → ∀ y, y < n → Sq (h + k * (m + 1)) (pushQ n d g k y)
  | 0, _, y, hy => (S y hy).mono (by omega)
  | k + 1, hk, y, hy => by
    have ih := pushQ_sq M S k (by omega)
    show Sq _ (if y = k then pmx n d (pushQ n d g k) k else pushQ n d g k y)
    by_cases c : y = k
    · rw [if_pos c]
      refine (pmx_sq M ih (by omega)).mono ?_
      rw [Nat.add_mul]; omega
    · rw [if_neg c]
      exact (ih y hy).mono (by rw [Nat.add_mul]; omega)
/-- above the distances, all told -/
structure Above (n : Nat) (d : Nat → Nat → Rat) (o : Nat → Rat) : Prop where
  nn : ∀ x, x < n → 0 ≤ o x
  ge : ∀ x y, x < n → y < n → x ≠ y → d x y ≤ o x + o y
/-- one more is pushed down -/
theorem Above.push (M : MetQ m n d) (A : Above n d o) (hx : x < n) : Above n d (fun i => if i = x then pmx n d o x else o i) ∧ pmx n d o x ≤ o x := by
  obtain ⟨g0, g1⟩ := pmx_ge (d := d) (o := o) hx
  refine ⟨⟨fun y hy => ?_, fun y z hy hz e => ?_⟩, ?_⟩
  · try dsimp only
    split
    · exact g0
    · exact A.nn y hy
  · try dsimp only
    by_cases c1 : y = x
    · subst c1
      rw [if_pos rfl, if_neg fun h => e h.symm]
      have := g1 z hz (fun h => e h.symm)
      grind
    · rw [if_neg c1]
      by_cases c2 : z = x
      · subst c2
        rw [if_pos rfl]
        have := g1 y hy c1
        rw [M.sym y z hy hz]
        grind
      · rw [if_neg c2]
        exact A.ge y z hy hz e
  · rcases pmx_is (n := n) (d := d) (o := o) (x := x) with e | ⟨y, hy, c, e⟩
    · rw [e]; exact A.nn x hx
    · rw [e]
      have := A.ge x y hx hy fun h => c h.symm
      grind
/-- someone is met -/
def Met1 (n : Nat) (d : Nat → Nat → Rat) (o : Nat → Rat) (x : Nat) : Prop := ∃ y, y < n ∧ o x + o y = d x y
theorem pushQ_ok (M : MetQ m n d) (A : Above n d g) : ∀ k, k ≤ n → Above n d (pushQ n d g k) ∧ (∀ x, x < k → Met1 n d (pushQ n d g k) x) ∧ ∀ x, x < n → pushQ n d g k x ≤ g x
  | 0, _ => ⟨A, fun x hx => absurd hx (Nat.not_lt_zero _), fun x _ => Rat.le_refl⟩
  | k + 1, hk => by
    obtain ⟨A1, w1, l1⟩ := pushQ_ok M A k (by omega)
    have hkn : k < n := by omega
    obtain ⟨A2, le⟩ := A1.push M (x := k) hkn
    refine ⟨A2, fun x hx => ?_, fun x hx => ?_⟩
    · by_cases c : x = k
      · subst c
        rcases pmx_is (n := n) (d := d) (o := pushQ n d g x) (x := x) with e | ⟨y, hy, cy, e⟩
        · refine ⟨x, hkn, ?_⟩
          show (if x = x then _ else _) + (if x = x then _ else _) = d x x
          rw [if_pos rfl, e, M.zero x hkn]
          grind
        · refine ⟨y, hy, ?_⟩
          show (if x = x then pmx n d (pushQ n d g x) x else _) + (if y = x then _ else pushQ n d g x y) = d x y
          rw [if_pos rfl, if_neg cy, e]
          grind
      · obtain ⟨y, hy, e⟩ := w1 x (by omega)
        refine ⟨y, hy, ?_⟩
        show (if x = k then _ else pushQ n d g k x) + (if y = k then pmx n d (pushQ n d g k) k else pushQ n d g k y) = d x y
        rw [if_neg c]
        by_cases cy : y = k
        · subst cy
          rw [if_pos rfl]
          by_cases cx : x = y
          · exact absurd cx c
          · have h1 := A2.ge x y (by omega) hy cx
            try dsimp only at h1
            rw [if_neg c, if_pos rfl] at h1
            grind
        · rw [if_neg cy]; exact e
    · show (if x = k then pmx n d (pushQ n d g k) k else pushQ n d g k x) ≤ g x
      by_cases c : x = k
      · subst c
        rw [if_pos rfl]
        exact Rat.le_trans le (l1 x hx)
      · rw [if_neg c]; exact l1 x hx
/-- tight functions do not change faster than the distances -/
theorem tight_lip (M : MetQ m n d) (A : Above n d o) (hx : x < n) (w : Met1 n d o x) {y : Nat} (hy : y < n) : o x ≤ d x y + o y := by
  obtain ⟨z, hz, e⟩ := w
  by_cases c : y = z
  · subst c
    have := A.nn y hy
    grind
  · have h1 := A.ge y z hy hz c
    have h2 := M.tri x y z hx hy hz
    grind
end
end Ev
namespace Ev
theorem Met.sclG {n : Nat} {f : Nat → Nat → Int} {a b : Int} (M : Met n f) (ha : 0 < a) (ha4 : a ≤ 2 ^ 50) (hb : 0 < b) (hb3 : b ≤ 2 ^ 50) : MetQ 74 n fun x y => Ev.scl a b (f x y) where
  zero := fun x hx => by rw [M.zero x hx]; exact Ev.scl_zero
  sym := fun x y hx hy => by rw [M.sym x y hx hy]
  pos := fun x y hx hy c => by rw [← scl_zero (a := a) (b := b), scl_lt ha hb]; exact M.pos x y hx hy c
  tri := fun x y z hx hy hz => by rw [← scl_add, scl_le ha hb]; exact M.tri x y z hx hy hz
  sq := fun x y hx hy => scl_sq (m := 14) (k := 60) hb (by
    have := M.nn hx hy
    have := M.le x y hx hy
    unfold Sz; omega) (by unfold Sz; omega) (by unfold Sz; omega)
theorem ten12 : (10 : Int) ^ 12 = 1000000000000 := by decide
/-- the greatest difference of functions that are close at each point -/
theorem fold_mx_is {qs rs : List Rat} {q0 r : Rat} (e0 : qs = q0 :: rs) (h : IsMax r qs) : qs.foldl mxQ q0 = r := by
  subst e0
  exact max_uniq mx_max h
end Ev
/-! EvDet: determinants. -/
namespace Ev
def sumN : Nat → (Nat → Rat) → Rat
  | 0, _ => 0
  | n + 1, f => sumN n f + f n
section
variable {n : Nat} {f g : Nat → Rat}
theorem sumN_congr : ∀ {n : Nat}, (∀ i, i < n → f i = g i) → sumN n f = sumN n g
  | 0, _ => rfl
  | n + 1, h => by rw [sumN, sumN, sumN_congr (fun i hi => h i (by omega)), h n (by omega)]
theorem sumN_add : ∀ {n : Nat}, sumN n (fun i => f i + g i) = sumN n f + sumN n g
  | 0 => by simp [sumN]; grind
  | n + 1 => by rw [sumN, sumN, sumN, sumN_add]; grind
theorem sumN_mul {c : Rat} : ∀ {n : Nat}, sumN n (fun i => c * f i) = c * sumN n f
  | 0 => by simp [sumN]
  | n + 1 => by rw [sumN, sumN, sumN_mul]; grind
theorem sumN_neg : ∀ {n : Nat}, sumN n (fun i => - f i) = - sumN n f
  | 0 => by simp [sumN]
  | n + 1 => by rw [sumN, sumN, sumN_neg]; grind
theorem sumN_zero : ∀ {n : Nat}, (∀ i, i < n → f i = 0) → sumN n f = 0
  | 0, _ => rfl
  | n + 1, h => by rw [sumN, sumN_zero (fun i hi => h i (by omega)), h n (by omega)]; grind
theorem sumN_front : ∀ {n : Nat}, sumN (n + 1) f = f 0 + sumN n fun i => f (i + 1)
  | 0 => by simp [sumN]; grind
  | n + 1 => by rw [sumN, sumN_front, sumN]; grind
theorem sumN_swap {F : Nat → Nat → Rat} {m : Nat} : ∀ {n : Nat}, sumN n (fun i => sumN m fun j => F i j) = sumN m fun j => sumN n fun i => F i j
  | 0 => by rw [sumN]; exact (sumN_zero fun _ _ => rfl).symm
  | n + 1 => by
    rw [sumN, sumN_swap, ← sumN_add]
    rfl
end
def sg : Nat → Rat
  | 0 => 1
  | j + 1 => - sg j
theorem sg_sq : ∀ j, sg j * sg j = 1
  | 0 => by simp [sg]
  | j + 1 => by
    have := sg_sq j
    rw [sg]; grind
def skip (j k : Nat) : Nat := if k < j then k else k + 1
def det : Nat → (Nat → Nat → Rat) → Rat
  | 0, _ => 1
  | n + 1, A => sumN (n + 1) fun j => sg j * A 0 j * det n fun i k => A (i + 1) (skip j k)
section
variable {n : Nat} {A B : Nat → Nat → Rat}
theorem skip_lt {j k n : Nat} (hj : j < n + 1) (hk : k < n) : skip j k < n + 1 := by unfold skip; split <;> omega
theorem det_congr : ∀ {n : Nat} {A B : Nat → Nat → Rat}, (∀ i j, i < n → j < n → A i j = B i j) → det n A = det n B
  | 0, _, _, _ => rfl
  | n + 1, A, B, h => by
    rw [det, det]
    refine sumN_congr fun j hj => ?_
    rw [h 0 j (by omega) hj, det_congr fun i k hi hk => h (i + 1) (skip j k) (by omega) (skip_lt hj hk)]
def updR (A : Nat → Nat → Rat) (r : Nat) (u : Nat → Rat) : Nat → Nat → Rat := fun i j => if i = r then u j else A i j
theorem updR_succ {r j : Nat} {u : Nat → Rat} : (fun i k => updR A (r + 1) u (i + 1) (skip j k)) = updR (fun i k => A (i + 1) (skip j k)) r fun k => u (skip j k) := by
  funext i k
  unfold updR
  by_cases c : i = r
  · rw [if_pos c, if_pos (by omega)]
  · rw [if_neg c, if_neg (by omega)]
/-- linear in each row -/
theorem det_lin {a b : Rat} : ∀ {n r : Nat} {A : Nat → Nat → Rat} {u v : Nat → Rat}, r < n → det n (updR A r fun j => a * u j + b * v j) = a * det n (updR A r u) + b * det n (updR A r v)
  | 0, r, _, _, _, h => absurd h (Nat.not_lt_zero _)
  | n + 1, 0, A, u, v, _ => by
    rw [det, det, det, ← sumN_mul, ← sumN_mul, ← sumN_add]
    refine sumN_congr fun j _ => ?_
    have e : ∀ w, (fun i k => updR A 0 w (i + 1) (skip j k)) = fun i k => A (i + 1) (skip j k) := fun w => by
      funext i k; unfold updR; rw [if_neg (by omega)]
    rw [e, e, e]
    show sg j * (a * u j + b * v j) * _ = a * (sg j * u j * _) + b * (sg j * v j * _)
    grind
  | n + 1, r + 1, A, u, v, h => by
    rw [det, det, det, ← sumN_mul, ← sumN_mul, ← sumN_add]
    refine sumN_congr fun j _ => ?_
    rw [updR_succ, updR_succ, updR_succ, det_lin (by omega)]
    have e : ∀ w, updR A (r + 1) w 0 j = A 0 j := fun w => by unfold updR; rw [if_neg (by omega)]
    rw [e, e, e]
    grind
/-- a column of zeros in front -/
theorem det_col0 : ∀ {n : Nat} {A : Nat → Nat → Rat}, (∀ i, i < n + 1 → A i 0 = 0) → det (n + 1) A = 0
  | 0, A, h => by
    rw [det]
    refine sumN_zero fun j hj => ?_
    have : j = 0 := by omega
    subst this
    rw [h 0 (by omega)]
    grind
  | n + 1, A, h => by
    rw [det]
    refine sumN_zero fun j hj => ?_
    by_cases c : j = 0
    · subst c; rw [h 0 (by omega)]; grind
    · rw [det_col0 (n := n) fun i hi => ?_]
      · grind
      · show A (i + 1) (skip j 0) = 0
        have : skip j 0 = 0 := by unfold skip; rw [if_pos (by omega)]
        rw [this]; exact h (i + 1) (by omega)
/-- a column of zeros but for its first -/
theorem det_col1 (h : ∀ i, i < n → A (i + 1) 0 = 0) : det (n + 1) A = A 0 0 * det n fun i k => A (i + 1) (k + 1) := by
  rw [det, sumN_front]
  have e0 : (fun i k => A (i + 1) (skip 0 k)) = fun i k => A (i + 1) (k + 1) := by
    funext i k; unfold skip; rw [if_neg (by omega)]
  rw [e0, sumN_zero fun j hj => ?_]
  · show 1 * A 0 0 * _ + 0 = _
    grind
  · cases n with
    | zero => omega
    | succ n =>
      rw [det_col0 (n := n) fun i hi => ?_]
      · grind
      · show A (i + 1) (skip (j + 1) 0) = 0
        have : skip (j + 1) 0 = 0 := by unfold skip; rw [if_pos (by omega)]
        rw [this]; exact h i hi
/-- two rows in front, told by pairs of columns -/
theorem pairs_sum {N : Nat} {T : Nat → Nat → Rat} : sumN (N + 1) (fun j => sumN N fun k => T j k) = sumN N fun a => sumN N fun b => if a ≤ b then T (b + 1) a + T a b else 0 := by
  have e1 : sumN (N + 1) (fun j => sumN N fun k => T j k) = sumN (N + 1) (fun j => sumN N fun k => if k < j then T j k else 0) + sumN (N + 1) (fun j => sumN N fun k => if j ≤ k then T j k else 0) := by
    rw [← sumN_add]
    refine sumN_congr fun j _ => ?_
    rw [← sumN_add]
    refine sumN_congr fun k _ => ?_
    by_cases c : k < j
    · rw [if_pos c, if_neg (by omega)]; grind
    · rw [if_neg c, if_pos (by omega)]; grind
  have e2 : sumN (N + 1) (fun j => sumN N fun k => if k < j then T j k else 0) = sumN N fun a => sumN N fun b => if a ≤ b then T (b + 1) a else 0 := by
    rw [sumN_front, sumN_zero (f := fun k => if k < 0 then T 0 k else 0) (fun i _ => if_neg (by omega)), sumN_swap]
    rw [show ∀ z : Rat, 0 + z = z by intro z; grind]
    refine sumN_congr fun a _ => sumN_congr fun b _ => ?_
    by_cases c : a ≤ b
    · rw [if_pos c, if_pos (by omega)]
    · rw [if_neg c, if_neg (by omega)]
  have e3 : sumN (N + 1) (fun j => sumN N fun k => if j ≤ k then T j k else 0) = sumN N fun a => sumN N fun b => if a ≤ b then T a b else 0 := by
    rw [sumN, sumN_zero (f := fun k => if N ≤ k then T N k else 0) (fun i hi => if_neg (by omega))]
    grind
  rw [e1, e2, e3, ← sumN_add]
  refine sumN_congr fun a _ => ?_
  rw [← sumN_add]
  refine sumN_congr fun b _ => ?_
  by_cases c : a ≤ b
  · rw [if_pos c, if_pos c, if_pos c]
  · rw [if_neg c, if_neg c, if_neg c]; grind
theorem skip_skip {a b l : Nat} (h : a ≤ b) : skip (b + 1) (skip a l) = skip a (skip b l) := by
  unfold skip
  by_cases c1 : l < a
  · have c2 : l < b := by omega
    simp only [c1, c2, if_true]
    rw [if_pos (by omega)]
  · by_cases c2 : l < b
    · simp only [c1, c2, if_true, if_false]
      rw [if_pos (by omega)]
    · simp only [c1, c2, if_false]
      rw [if_neg (by omega), if_neg (by omega)]
theorem det_two : det (n + 2) A = sumN (n + 1) fun a => sumN (n + 1) fun b => if a ≤ b then sg a * sg b * (A 0 a * A 1 (b + 1) - A 0 (b + 1) * A 1 a) * det n (fun i l => A (i + 2) (skip a (skip b l))) else 0 := by
  have e : det (n + 2) A = sumN (n + 2) fun j => sumN (n + 1) fun k => sg j * A 0 j * (sg k * A 1 (skip j k) * det n fun i l => A (i + 2) (skip j (skip k l))) := by
    rw [det]
    refine sumN_congr fun j _ => ?_
    rw [det, ← sumN_mul]
  rw [e, pairs_sum]
  refine sumN_congr fun a _ => sumN_congr fun b _ => ?_
  by_cases c : a ≤ b
  · rw [if_pos c, if_pos c]
    have e1 : skip (b + 1) a = a := by unfold skip; rw [if_pos (by omega)]
    have e2 : skip a b = b + 1 := by unfold skip; rw [if_neg (by omega)]
    have e3 : (fun i l => A (i + 2) (skip (b + 1) (skip a l))) = fun i l => A (i + 2) (skip a (skip b l)) := by
      funext i l; rw [skip_skip c]
    rw [e1, e2, e3]
    show (- sg b) * A 0 (b + 1) * (sg a * A 1 a * _) + _ = _
    grind
  · rw [if_neg c, if_neg c]
def swapR (p : Nat) (A : Nat → Nat → Rat) : Nat → Nat → Rat := fun i => if i = p then A (p + 1) else if i = p + 1 then A p else A i
theorem det_swap : ∀ {p n : Nat} {A : Nat → Nat → Rat}, p + 1 < n → det n (swapR p A) = - det n A
  | 0, n + 2, A, _ => by
    rw [det_two, det_two, ← sumN_neg]
    refine sumN_congr fun a _ => ?_
    rw [← sumN_neg]
    refine sumN_congr fun b _ => ?_
    by_cases c : a ≤ b
    · rw [if_pos c, if_pos c]
      have e : (fun i l => swapR 0 A (i + 2) (skip a (skip b l))) = fun i l => A (i + 2) (skip a (skip b l)) := by
        funext i l; unfold swapR; rw [if_neg (by omega), if_neg (by omega)]
      rw [e]
      show sg a * sg b * (A 1 a * A 0 (b + 1) - A 1 (b + 1) * A 0 a) * _ = _
      grind
    · rw [if_neg c, if_neg c]; grind
  | p + 1, n + 1, A, h => by
    rw [det, det, ← sumN_neg]
    refine sumN_congr fun j _ => ?_
    have e : (fun i k => swapR (p + 1) A (i + 1) (skip j k)) = swapR p fun i k => A (i + 1) (skip j k) := by
      funext i k
      unfold swapR
      by_cases c : i = p
      · rw [if_pos c, if_pos (by omega)]
      · rw [if_neg c, if_neg (by omega)]
        by_cases c2 : i = p + 1
        · rw [if_pos c2, if_pos (by omega)]
        · rw [if_neg c2, if_neg (by omega)]
    have e0 : swapR (p + 1) A 0 j = A 0 j := by unfold swapR; rw [if_neg (by omega), if_neg (by omega)]
    rw [e, e0, det_swap (by omega)]
    grind
  | 0, 1, _, h => absurd h (by omega)
  | 0, 0, _, h => absurd h (by omega)
  | _ + 1, 0, _, h => absurd h (by omega)
/-- a row is brought to the front -/
def frontR (p : Nat) (A : Nat → Nat → Rat) : Nat → Nat → Rat := fun i => if i = 0 then A p else if i ≤ p then A (i - 1) else A i
theorem det_front : ∀ {p n : Nat} {A : Nat → Nat → Rat}, p < n → det n (frontR p A) = sg p * det n A
  | 0, n, A, _ => by
    have e : frontR 0 A = A := by
      funext i
      unfold frontR
      by_cases c : i = 0
      · rw [if_pos c, c]
      · rw [if_neg c, if_neg (by omega)]
    rw [e]; simp [sg]
  | p + 1, n, A, h => by
    have e : frontR (p + 1) A = frontR p (swapR p A) := by
      funext i
      unfold frontR swapR
      by_cases c : i = 0
      · rw [if_pos c, if_pos c, if_pos rfl]
      · rw [if_neg c, if_neg c]
        by_cases c2 : i ≤ p
        · rw [if_pos c2, if_pos (by omega), if_neg (by omega), if_neg (by omega)]
        · rw [if_neg c2]
          by_cases c3 : i = p + 1
          · rw [if_pos (by omega), if_neg (by omega), if_pos c3]
            congr 1; omega
          · rw [if_neg (by omega), if_neg (by omega), if_neg (by omega)]
    rw [e, det_front (by omega), det_swap h, sg]
    grind
/-- equal rows in front -/
theorem det_eq01 (h : ∀ j, j < n + 2 → A 0 j = A 1 j) : det (n + 2) A = 0 := by
  have e : det (n + 2) (swapR 0 A) = det (n + 2) A := det_congr fun i j hi hj => by
    unfold swapR
    by_cases c : i = 0
    · rw [if_pos c, c]; exact (h j hj).symm
    · rw [if_neg c]
      by_cases c2 : i = 1
      · rw [if_pos c2, c2]; exact h j hj
      · rw [if_neg c2]
  have := det_swap (p := 0) (n := n + 2) (A := A) (by omega)
  rw [e] at this
  grind
theorem det_eq0 {r : Nat} (hr : r + 1 < n) (h : ∀ j, j < n → A (r + 1) j = A 0 j) : det n A = 0 := by
  obtain ⟨m, rfl⟩ : ∃ m, n = m + 2 := ⟨n - 2, by omega⟩
  have h1 := det_front (p := r + 1) (A := A) hr
  rw [det_eq01 fun j hj => ?_] at h1
  · have h2 := sg_sq (r + 1)
    grind
  · unfold frontR
    rw [if_pos rfl, if_neg (by omega), if_pos (by omega)]
    exact h j hj
/-- rows less multiples of the first -/
theorem det_clear {c : Nat → Rat} : ∀ m, m ≤ n → det n (fun i j => if i = 0 ∨ m < i then A i j else A i j - c i * A 0 j) = det n A
  | 0, _ => det_congr fun i j _ _ => by rw [if_pos (by omega)]
  | m + 1, h => by
    rw [← det_clear (c := c) m (by omega)]
    by_cases hm : m + 1 < n
    · generalize hB : (fun i j => if i = 0 ∨ m < i then A i j else A i j - c i * A 0 j) = B
      have e1 : det n (fun i j => if i = 0 ∨ m + 1 < i then A i j else A i j - c i * A 0 j) = det n (updR B (m + 1) fun j => 1 * B (m + 1) j + (-c (m + 1)) * B 0 j) := det_congr fun i j _ _ => by
        unfold updR
        rw [← hB]
        dsimp only
        by_cases q : i = m + 1
        · subst q
          rw [if_pos rfl, if_neg (by omega), if_pos (by omega), if_pos (by omega)]
          grind
        · rw [if_neg q]
          by_cases q2 : i = 0 ∨ m < i
          · rw [if_pos q2, if_pos (by omega)]
          · rw [if_neg q2, if_neg (by omega)]
      have e2 : updR B (m + 1) (B (m + 1)) = B := by
        funext i j; unfold updR; split
        · rename_i q; rw [q]
        · rfl
      rw [e1, det_lin (u := B (m + 1)) (v := B 0) hm]
      have e3 : det n (updR B (m + 1) (B 0)) = 0 := det_eq0 (r := m) hm fun j _ => by
        unfold updR
        rw [if_pos rfl, if_neg (by omega)]
      rw [show updR B (m + 1) (fun j => B (m + 1) j) = B from e2, show updR B (m + 1) (fun j => B 0 j) = updR B (m + 1) (B 0) from rfl, e3]
      grind
    · exact det_congr fun i j hi _ => by
        by_cases q : i = 0 ∨ m < i
        · rw [if_pos q]
          by_cases q2 : i = 0 ∨ m + 1 < i
          · rw [if_pos q2]
          · omega
        · rw [if_neg q, if_neg (by omega)]
/-- a step of the elimination -/
theorem det_step {p : Nat} (hp : p < n + 1) (h0 : A p 0 ≠ 0) : det (n + 1) A = sg p * A p 0 * det n fun i k => A (skip p i) (k + 1) - A (skip p i) 0 / A p 0 * A p (k + 1) := by
  have h1 := det_front (p := p) (n := n + 1) (A := A) hp
  have h2 := det_clear (n := n + 1) (A := frontR p A) (c := fun i => frontR p A i 0 / A p 0) (n + 1) (Nat.le_refl _)
  have f0 : frontR p A 0 = A p := by unfold frontR; rw [if_pos rfl]
  have fs : ∀ i, frontR p A (i + 1) = A (skip p i) := fun i => by
    unfold frontR skip
    rw [if_neg (by omega)]
    by_cases c : i < p
    · rw [if_pos (by omega), if_pos c]; rfl
    · rw [if_neg (by omega), if_neg c]
  have h3 : det (n + 1) (fun i j => if i = 0 ∨ n + 1 < i then frontR p A i j else frontR p A i j - frontR p A i 0 / A p 0 * frontR p A 0 j) = A p 0 * det n fun i k => A (skip p i) (k + 1) - A (skip p i) 0 / A p 0 * A p (k + 1) := by
    rw [det_col1 fun i hi => ?_]
    · rw [if_pos (.inl rfl), f0]
      congr 1
      refine det_congr fun i k hi hk => ?_
      rw [if_neg (by omega), fs]
    · rw [if_neg (by omega), f0, fs]
      grind
  rw [← h2, h3] at h1
  have h4 := sg_sq p
  grind
end
end Ev
namespace Ev
/-! ### numbers over one denominator -/
/-- all entries are integers over one number, so small -/
def Cd (hz hq r n : Nat) (L : Nat → Nat → Rat) : Prop := ∃ q : Int, q ≠ 0 ∧ Sz hq q ∧ ∀ i j, i < r → j < n → ∃ z : Int, Sz hz z ∧ L i j = Rat.divInt z q
theorem Cd.sq {hz hq r n : Nat} {L : Nat → Nat → Rat} (C : Cd hz hq r n L) {i j : Nat} (hi : i < r) (hj : j < n) : Sq (max hz hq) (L i j) := by
  obtain ⟨q, q0, sq, h⟩ := C
  obtain ⟨z, sz, e⟩ := h i j hi hj
  rw [e]
  exact sq_divInt q0 (sz.mono (Nat.le_max_left _ _)) (sq.mono (Nat.le_max_right _ _))
theorem divInt_ne {z q : Int} (h : Rat.divInt z q ≠ 0) : z ≠ 0 := fun e => h (by rw [e, Rat.zero_divInt])
theorem Cd.step {hz hq r n p at_ : Nat} {L : Nat → Nat → Rat} (C : Cd hz hq (r + 1) n L) (hp : p < r + 1) (ha : at_ < n) (h0 : L p at_ ≠ 0) : Cd (2 * hz + 1) (hq + hz) r n fun i j => L (skip p i) j - L (skip p i) at_ * (L p j / L p at_) := by
  obtain ⟨q, q0, sq, h⟩ := C
  obtain ⟨t, st, et⟩ := h p at_ hp ha
  have t0 : t ≠ 0 := divInt_ne (by rw [← et]; exact h0)
  refine ⟨q * t, Int.mul_ne_zero q0 t0, sq.mul st, fun i j hi hj => ?_⟩
  have hs : skip p i < r + 1 := skip_lt hp hi
  obtain ⟨x, sx, ex⟩ := h (skip p i) j hs hj
  obtain ⟨f, sf, ef⟩ := h (skip p i) at_ hs ha
  obtain ⟨y, sy, ey⟩ := h p j hp hj
  refine ⟨x * t - f * y, ((sx.mul st).sub ((sf.mul sy))).mono (by omega), ?_⟩
  show L (skip p i) j - L (skip p i) at_ * (L p j / L p at_) = _
  rw [ex, ef, ey, et]
  simp only [Rat.divInt_eq_div, Rat.intCast_mul, Rat.intCast_sub]
  have hq : (q : Rat) ≠ 0 := fun h => q0 (Rat.intCast_eq_zero_iff.mp h)
  have ht : (t : Rat) ≠ 0 := fun h => t0 (Rat.intCast_eq_zero_iff.mp h)
  generalize (q : Rat) = q at *
  generalize (t : Rat) = t at *
  generalize (x : Rat) = x at *
  generalize (f : Rat) = f at *
  generalize (y : Rat) = y at *
  clear ex ef ey et h0 h
  grind
theorem sg_mod (p : Nat) : sg p = if p % 2 = 1 then -1 else 1 := by
  induction p with
  | zero => rfl
  | succ p ih =>
    rw [sg, ih]
    by_cases c : p % 2 = 1
    · rw [if_pos c, if_neg (by omega)]; grind
    · rw [if_neg c, if_pos (by omega)]
end Ev
namespace Ev
/-! ### bordered tables -/
/-- ones at the border -/
def bord (B : Nat → Nat → Rat) : Nat → Nat → Rat := fun i j => if i = 0 then (if j = 0 then 0 else 1) else if j = 0 then 1 else B (i - 1) (j - 1)
/-- Cayley and Menger's: the bordered one by the one of products -/
theorem det_border {n : Nat} {B : Nat → Nat → Rat} (hs : ∀ i j, i < n + 1 → j < n + 1 → B i j = B j i) (hz : B 0 0 = 0) : det (n + 2) (bord B) = - sg n * det n fun i j => B 0 (i + 1) + B 0 (j + 1) - B (i + 1) (j + 1) := by
  rw [det_step (n := n + 1) (p := 1) (A := bord B) (by omega) (by show (1 : Rat) ≠ 0; decide)]
  have e1 : bord B 1 0 = 1 := rfl
  -- rows left: the border, and the others less the first
  have e2 : det (n + 1) (fun i k => bord B (skip 1 i) (k + 1) - bord B (skip 1 i) 0 / bord B 1 0 * bord B 1 (k + 1)) = det (n + 1) fun i k => if i = 0 then 1 else B i k - B 0 k := det_congr fun i k hi hk => by
    rw [e1]
    by_cases c : i = 0
    · subst c
      show (1 : Rat) - 0 / 1 * _ = 1
      grind
    · have hsk : skip 1 i = i + 1 := by unfold skip; rw [if_neg (by omega)]
      rw [if_neg c, hsk]
      show B i k - 1 / 1 * B 0 k = _
      grind
  rw [e2, e1]
  -- now the ones in front take the first column off
  rw [det_step (n := n) (p := 0) (by omega) (by rw [if_pos rfl]; decide)]
  have e3 : det n (fun i k => (if skip 0 i = 0 then (1 : Rat) else B (skip 0 i) (k + 1) - B 0 (k + 1)) - (if skip 0 i = 0 then (1 : Rat) else B (skip 0 i) 0 - B 0 0) / (if (0 : Nat) = 0 then 1 else B 0 0 - B 0 0) * (if (0 : Nat) = 0 then 1 else B 0 (k + 1) - B 0 (k + 1))) = det n fun i k => (-1) * (B 0 (i + 1) + B 0 (k + 1) - B (i + 1) (k + 1)) := det_congr fun i k hi hk => by
    have hsk : skip 0 i = i + 1 := by unfold skip; rw [if_neg (by omega)]
    rw [hsk, if_neg (by omega), if_neg (by omega), if_pos rfl, if_pos rfl, hz, hs (i + 1) 0 (by omega) (by omega)]
    grind
  rw [e3, if_pos rfl]
  have e4 : ∀ (n : Nat) (C : Nat → Nat → Rat), det n (fun i k => (-1) * C i k) = sg n * det n C := by
    intro n
    induction n with
    | zero => intro C; simp [det, sg]
    | succ n ih =>
      intro C
      rw [det, det, ← sumN_mul]
      refine sumN_congr fun j _ => ?_
      rw [show (fun i k => (-1 : Rat) * C (i + 1) (skip j k)) = fun i k => (-1) * (fun i k => C (i + 1) (skip j k)) i k from rfl, ih, sg]
      grind
  rw [show (fun i k => (-1 : Rat) * (B 0 (i + 1) + B 0 (k + 1) - B (i + 1) (k + 1))) = fun i k => (-1) * (fun i k => B 0 (i + 1) + B 0 (k + 1) - B (i + 1) (k + 1)) i k from rfl, e4]
  show - sg 0 * 1 * (sg 0 * 1 * _) = _
  simp only [sg]
  grind
/-- two equal rows further on -/
theorem det_eqr {n a b : Nat} {A : Nat → Nat → Rat} (hab : a < b) (hb : b < n) (h : ∀ j, j < n → A a j = A b j) : det n A = 0 := by
  have h1 := det_front (p := a) (n := n) (A := A) (by omega)
  rw [det_eq0 (r := b - 1) (by omega) fun j hj => ?_] at h1
  · have h2 := sg_sq a
    grind
  · unfold frontR
    rw [if_neg (by omega), if_pos rfl]
    by_cases c : b - 1 + 1 ≤ a
    · omega
    · rw [if_neg c, show b - 1 + 1 = b by omega]; exact (h j hj).symm
/-- all entries times a number -/
theorem det_scale {c : Rat} : ∀ {n : Nat} {A : Nat → Nat → Rat}, det n (fun i k => c * A i k) = c ^ n * det n A
  | 0, A => by simp [det]
  | n + 1, A => by
    rw [det, det, ← sumN_mul]
    refine sumN_congr fun j _ => ?_
    rw [show (fun i k => c * A (i + 1) (skip j k)) = fun i k => c * (fun i k => A (i + 1) (skip j k)) i k from rfl, det_scale, Rat.pow_succ]
    grind
end Ev
namespace Ev
def sumI : Nat → (Nat → Int) → Int
  | 0, _ => 0
  | n + 1, f => sumI n f + f n
def sgI (j : Nat) : Int := 1 - 2 * ((j % 2 : Nat) : Int)
def detZ : Nat → (Nat → Nat → Int) → Int
  | 0, _ => 1
  | n + 1, A => sumI (n + 1) fun j => sgI j * A 0 j * detZ n fun i k => A (i + 1) (skip j k)
theorem sumI_cast {f : Nat → Int} : ∀ {n : Nat}, ((sumI n f : Int) : Rat) = sumN n fun i => ((f i : Int) : Rat)
  | 0 => rfl
  | n + 1 => by rw [sumI, sumN, Rat.intCast_add, sumI_cast]
theorem sgI_cast (j : Nat) : ((sgI j : Int) : Rat) = sg j := by
  rw [sg_mod]
  unfold sgI
  by_cases c : j % 2 = 1
  · rw [if_pos c, c]; rfl
  · rw [if_neg c, show j % 2 = 0 by omega]; rfl
theorem detZ_cast : ∀ {n : Nat} {A : Nat → Nat → Int}, ((detZ n A : Int) : Rat) = det n fun i j => ((A i j : Int) : Rat)
  | 0, _ => rfl
  | n + 1, A => by
    rw [detZ, det, sumI_cast]
    refine sumN_congr fun j _ => ?_
    rw [Rat.intCast_mul, Rat.intCast_mul, sgI_cast, detZ_cast]
theorem sgI_abs (j : Nat) : (sgI j).natAbs = 1 := by
  unfold sgI
  have : j % 2 < 2 := Nat.mod_lt _ (by decide)
  omega
theorem fmod2 {j : Nat} : (j : Int).fmod 2 = ((j % 2 : Nat) : Int) := by
  rw [Int.fmod_eq_emod_of_nonneg _ (by decide)]; omega
theorem cut_front {α : Type} {n j : Nat} {g : Nat → α} (hj : j < n + 1) : cut ((List.range (n + 1)).map g) none (some (j : Int)) ++ cut ((List.range (n + 1)).map g) (some ((j + 1 : Nat) : Int)) none = (List.range n).map fun k => g (skip j k) := by
  rw [cut_to (by simp; omega), cut_from (by simp; omega), ← List.eraseIdx_eq_take_drop_succ, eraseIdx_rg hj]
  rfl
theorem cut_one {α : Type} {n : Nat} {g : Nat → α} : cut ((List.range (n + 1)).map g) (some 1) none = (List.range n).map fun k => g (k + 1) := by
  rw [show (some (1 : Int)) = some ((1 : Nat) : Int) from rfl, cut_from (by simp), List.range_succ_eq_map, List.map_cons, List.drop_one, List.tail_cons, List.map_map]
  rfl
end Ev
namespace Ev
theorem det_bord_scale {n : Nat} {B : Nat → Nat → Rat} {c : Rat} (hs : ∀ i j, i < n + 1 → j < n + 1 → B i j = B j i) (hz : B 0 0 = 0) : det (n + 2) (bord fun i j => c * B i j) = c ^ n * det (n + 2) (bord B) := by
  rw [det_border (B := fun i j => c * B i j) (fun i j hi hj => by rw [hs i j hi hj]) (by rw [hz]; grind), det_border hs hz]
  have e : (det n fun i j => c * B 0 (i + 1) + c * B 0 (j + 1) - c * B (i + 1) (j + 1)) = det n fun i j => c * (fun i j => B 0 (i + 1) + B 0 (j + 1) - B (i + 1) (j + 1)) i j := det_congr fun i j _ _ => by grind
  rw [e, det_scale]
  grind
def bordZ (B : Nat → Nat → Int) : Nat → Nat → Int := fun i j => if i = 0 then (if j = 0 then 0 else 1) else if j = 0 then 1 else B (i - 1) (j - 1)
theorem bordZ_cast {B : Nat → Nat → Int} : (fun i j => ((bordZ B i j : Int) : Rat)) = bord fun i j => ((B i j : Int) : Rat) := by
  funext i j
  unfold bordZ bord
  split
  · split <;> rfl
  · split <;> rfl
theorem rpow2 {x : Rat} : ∀ n : Nat, x ^ (2 * n) = (x * x) ^ n
  | 0 => by simp
  | n + 1 => by
    rw [Nat.mul_succ, Rat.pow_succ, Rat.pow_succ, rpow2 n, Rat.pow_succ]
    grind
theorem rpow_ne {y : Rat} (hy : y ≠ 0) : ∀ n : Nat, y ^ n ≠ 0
  | 0 => by simp
  | n + 1 => by
    rw [Rat.pow_succ]
    have := rpow_ne hy n
    grind
theorem rdiv_pow {x y : Rat} (hy : y ≠ 0) : ∀ n : Nat, (x / y) ^ n = x ^ n / y ^ n
  | 0 => by simp; grind
  | n + 1 => by
    have := rpow_ne hy n
    rw [Rat.pow_succ, Rat.pow_succ, Rat.pow_succ, rdiv_pow hy n]
    grind
/-- the law's number by the program's -/
theorem cm_law {n : Nat} {F : Nat → Nat → Int} {a b : Int} (ha : 0 < a) (hb : 0 < b) (hs : ∀ i j, i < n + 1 → j < n + 1 → F i j = F j i) (hz : F 0 0 = 0) :
    Rat.divInt (detZ (n + 2) (bordZ fun i j => F i j ^ 2) * a ^ (2 * n)) (b ^ (2 * n)) = det (n + 2) (bord fun i j => scl a b (F i j) * scl a b (F i j)) ∧ detZ (n + 2) (bordZ fun i j => F i j ^ 2) = sgI (n + 1) * detZ n fun i j => F 0 (i + 1) ^ 2 + F 0 (j + 1) ^ 2 - F (i + 1) (j + 1) ^ 2 := by
  have h1 := det_bord_scale (n := n) (B := fun i j => ((F i j ^ 2 : Int) : Rat)) (c := ((a : Rat) / b) * ((a : Rat) / b)) (fun i j hi hj => by rw [hs i j hi hj]) (by rw [hz]; rfl)
  have e1 : (fun i j => scl a b (F i j) * scl a b (F i j)) = fun i j => ((a : Rat) / b) * ((a : Rat) / b) * ((F i j ^ 2 : Int) : Rat) := by
    funext i j
    rw [scl_eq, Int.pow_succ, Int.pow_succ, Int.pow_zero, Int.one_mul, Rat.intCast_mul]
    generalize (a : Rat) / b = c
    grind
  refine ⟨?_, ?_⟩
  · rw [e1, h1, ← bordZ_cast, ← detZ_cast, Rat.divInt_eq_div, Rat.intCast_mul, Rat.intCast_pow, Rat.intCast_pow, rpow2, rpow2]
    have hb' : (b : Rat) ≠ 0 := fun h => by have := Rat.intCast_eq_zero_iff.mp h; omega
    have hy : (b : Rat) * b ≠ 0 := by grind
    have e2 : ((a : Rat) / b * ((a : Rat) / b)) ^ n = ((a : Rat) * a) ^ n / ((b : Rat) * b) ^ n := by
      rw [← rdiv_pow hy]
      congr 1
      grind
    rw [e2]
    have := rpow_ne hy n
    grind
  · have h2 := det_border (n := n) (B := fun i j => ((F i j ^ 2 : Int) : Rat)) (fun i j hi hj => by rw [hs i j hi hj]) (by rw [hz]; rfl)
    rw [← bordZ_cast, ← detZ_cast] at h2
    have e4 : (det n fun i j => ((F 0 (i + 1) ^ 2 : Int) : Rat) + ((F 0 (j + 1) ^ 2 : Int) : Rat) - ((F (i + 1) (j + 1) ^ 2 : Int) : Rat)) = ((detZ n fun i j => F 0 (i + 1) ^ 2 + F 0 (j + 1) ^ 2 - F (i + 1) (j + 1) ^ 2 : Int) : Rat) := by
      rw [detZ_cast]
      exact det_congr fun i j _ _ => by rw [Rat.intCast_sub, Rat.intCast_add]
    rw [e4] at h2
    have e5 : - sg n = ((sgI (n + 1) : Int) : Rat) := by rw [sgI_cast, sg]
    rw [e5, ← Rat.intCast_mul] at h2
    exact Rat.intCast_inj.mp h2
end Ev
namespace Ev
theorem pow_2 {v : Int} (h : v.natAbs < 2 ^ 64) : powD (.int v) (.int 2) = some (.ok (.fr (.int (v ^ 2)))) := by
  show (if 0 ≤ (2 : Int) ∧ (2 : Int) ≤ 1000000 ∧ v.natAbs < 2 ^ 64 then valA (.int (v ^ (2 : Int).toNat)) else none) = _
  rw [if_pos ⟨by decide, by decide, h⟩]; rfl
theorem ipow_lt {a : Int} {e : Nat} (ha : 0 < a) (ha4 : a ≤ 4) (he : e ≤ 12) : 0 < a ^ e ∧ (a ^ e).natAbs ≤ 2 ^ 24 := by
  refine ⟨Int.pow_pos ha, ?_⟩
  rw [Int.natAbs_pow]
  have h1 : a.natAbs ^ e ≤ 4 ^ e := Nat.pow_le_pow_left (by omega) _
  have h2 : 4 ^ e ≤ 4 ^ 12 := Nat.pow_le_pow_right (by decide) he
  have h3 : (4 : Nat) ^ 12 = 2 ^ 24 := by decide
  omega
end Ev
namespace Ev
/-! ### the least so far -/
def minO : List Int → D
  | [] => .non
  | i :: r => .int (r.foldl min i)
theorem minO_snoc {L : List Int} {z m : Int} (h : minO L = .int m) : minO (L ++ [z]) = .int (min m z) := by
  cases L with
  | nil => cases h
  | cons i r =>
    have h' : D.int (r.foldl min i) = .int m := h
    show D.int ((r ++ [z]).foldl min i) = _
    rw [List.foldl_append]
    cases h'
    rfl
theorem minO_cases (L : List Int) : (L = [] ∧ minO L = .non) ∨ ∃ m, minO L = .int m := by
  cases L with
  | nil => exact .inl ⟨rfl, rfl⟩
  | cons i r => exact .inr ⟨_, rfl⟩
theorem minO_ne {L : List Int} (h : L ≠ []) : minO L = .int (mnI L) := by
  cases L with
  | nil => exact absurd rfl h
  | cons i r => rfl
/-- what a split's four points give -/
def shI (f : Nat → Nat → Int) (a c b e : Nat) : Int := max (f a b + f c e) (f a e + f c b) - f a c - f b e
def shQ (d : Nat → Nat → Rat) (a c b e : Nat) : Rat := mxQ (d a b + d c e) (d a e + d c b) - d a c - d b e
theorem scl_mx {a b x y : Int} (ha : 0 < a) (hb : 0 < b) : mxQ (scl a b x) (scl a b y) = scl a b (max x y) := by
  by_cases c : x < y
  · rw [mxQ_t ((scl_lt ha hb).mpr c), Int.max_eq_right (by omega)]
  · rw [mxQ_f (fun h => c ((scl_lt ha hb).mp h)), Int.max_eq_left (by omega)]
theorem shQ_scl {F : Nat → Nat → Int} {a b : Int} (ha : 0 < a) (hb : 0 < b) {x c y e : Nat} : shQ (fun x y => scl a b (F x y)) x c y e = scl a b (shI F x c y e) := by
  unfold shQ shI
  rw [← scl_add, ← scl_add, scl_mx ha hb, ← scl_sub, ← scl_sub]
/-- all of them -/
def parts {α : Type} (S O : List Nat) (g : Nat → Nat → Nat → Nat → α) : List α := S.flatMap fun a => S.flatMap fun c => O.flatMap fun b => O.map fun e => g a c b e
theorem parts_map {α β : Type} {S O : List Nat} {g : Nat → Nat → Nat → Nat → α} {h : α → β} : (parts S O g).map h = parts S O fun a c b e => h (g a c b e) := by
  unfold parts
  simp only [List.map_flatMap, List.map_map]
  rfl
theorem parts_mem {α : Type} {S O : List Nat} {g : Nat → Nat → Nat → Nat → α} {z : α} : z ∈ parts S O g ↔ ∃ a c b e, a ∈ S ∧ c ∈ S ∧ b ∈ O ∧ e ∈ O ∧ z = g a c b e := by
  unfold parts
  simp only [List.mem_flatMap, List.mem_map]
  constructor
  · rintro ⟨a, ha, c, hc, b, hb, e, he, rfl⟩; exact ⟨a, c, b, e, ha, hc, hb, he, rfl⟩
  · rintro ⟨a, c, b, e, ha, hc, hb, he, rfl⟩; exact ⟨a, ha, c, hc, b, hb, e, he, rfl⟩
theorem parts_ne {α : Type} {S O : List Nat} {g : Nat → Nat → Nat → Nat → α} (hS : S ≠ []) (hO : O ≠ []) : parts S O g ≠ [] := by
  obtain ⟨a, S', rfl⟩ := List.exists_cons_of_ne_nil hS
  obtain ⟨b, O', rfl⟩ := List.exists_cons_of_ne_nil hO
  intro h
  have : g a a b b ∈ parts (a :: S') (b :: O') g := parts_mem.mpr ⟨a, a, b, b, List.mem_cons_self, List.mem_cons_self, List.mem_cons_self, List.mem_cons_self, rfl⟩
  rw [h] at this
  cases this
theorem flat_len {α β : Type} {c : Nat} {g : α → List β} : ∀ {xs : List α}, (∀ x ∈ xs, (g x).length ≤ c) → (xs.flatMap g).length ≤ xs.length * c
  | [], _ => by simp
  | x :: xs, h => by
    rw [List.flatMap_cons, List.length_append, List.length_cons, Nat.succ_mul]
    have := h x List.mem_cons_self
    have := flat_len (xs := xs) fun y hy => h y (List.mem_cons_of_mem _ hy)
    omega
theorem flat_snoc {α β : Type} {g : α → List β} {xs : List α} {x : α} : (xs ++ [x]).flatMap g = xs.flatMap g ++ g x := by
  rw [List.flatMap_append, List.flatMap_cons, List.flatMap_nil, List.append_nil]
end Ev
namespace Law
open PySem PySem.Spec PySem.W PySem.Calls PyProof.Rows Ev
open Ev (E S Fn)
abbrev R : OpenRow := OpenLaw.row PySem.Challenge.rw_spaceroads_k19_whole_single_linkage
abbrev qv : Program := view R.prog [0, 41]
def loose : List PySem.Str := [("_wall" : PySem.Str), ("Fault" : PySem.Str), ("Malformed" : PySem.Str), ("ZeroDivisor" : PySem.Str), ("Refused" : PySem.Str), ("is_integer" : PySem.Str), ("Ratio" : PySem.Str), ("less" : PySem.Str), ("is_rational" : PySem.Str), ("as_ratio" : PySem.Str), ("greatest" : PySem.Str), ("MOST" : PySem.Str), ("taken_rows" : PySem.Str), ("keeps_triangles" : PySem.Str), ("is_apart" : PySem.Str), ("Metric" : PySem.Str), ("failing_triple" : PySem.Str), ("is_ultrametric" : PySem.Str), ("single_linkage" : PySem.Str), ("_law_state" : PySem.Str), ("_law_odd" : PySem.Str), ("_law_honest" : PySem.Str), ("_law_take" : PySem.Str), ("_law_order_of" : PySem.Str), ("_law_shortest" : PySem.Str), ("_law_web" : PySem.Str), ("_law_renamed" : PySem.Str), ("_law_of_tree" : PySem.Str), ("_law_grid" : PySem.Str), ("_law_band" : PySem.Str), ("_law_levels" : PySem.Str), ("_law_rows" : PySem.Str), ("_law_factor" : PySem.Str), ("_law_ratios" : PySem.Str), ("_law_steps" : PySem.Str)]
def lawTop : Nat := 41
def lawIx : Nat := 37
def top (i : Nat) : Stmt := R.prog.main.body.getD i (.Pass ⟨0, 0, 0, 0⟩)
def inCls (s : Stmt) (j : Nat) : Stmt := match s with
  | .ClassDef _ _ _ b _ _ _ _ _ _ _ => b.getD j (.Pass ⟨0, 0, 0, 0⟩)
  | s => s
def b_is_integer : Ss := (.cons (.ret (.and (.op (.isa [.int]) (.cons (.var 0) .nil)) (.not (.op (.isa [.bool]) (.cons (.var 0) .nil))))) .nil)
def f_is_integer : Fn := ⟨1, [], [], 1, b_is_integer⟩
abbrev e_is_integer : FnE := ⟨0, ("is_integer", none), "is_integer", top 8, ["value"], f_is_integer⟩
def b_Ratio_init : Ss := (.cons (.ifs (.op .eq (.cons (.var 2) (.cons (.cst (.int 0)) .nil))) (.cons (.raise 2 (.cons (.cst (.str "zero")) .nil)) .nil) .nil) (.cons (.ifs (.op .lt (.cons (.var 2) (.cons (.cst (.int 0)) .nil))) (.cons (.asg (.nm 1) (.op .neg (.cons (.var 1) .nil))) (.cons (.asg (.nm 2) (.op .neg (.cons (.var 2) .nil))) .nil)) .nil) (.cons (.asg (.nm 3) (.op .gcd (.cons (.var 1) (.cons (.var 2) .nil)))) (.cons (.fld 0 0 (.op .fdiv (.cons (.var 1) (.cons (.var 3) .nil)))) (.cons (.fld 0 1 (.op .fdiv (.cons (.var 2) (.cons (.var 3) .nil)))) .nil)))))
def f_Ratio_init : Fn := ⟨3, [(.int 1)], [0], 4, b_Ratio_init⟩
abbrev e_Ratio_init : FnE := ⟨1, ("Ratio", some "__init__"), "Ratio.__init__", inCls (top 9) 0, ["self", "n", "d", "shared"], f_Ratio_init⟩
def b_Ratio_eq : Ss := (.cons (.ret (.and (.op (.isa [.cls 4]) (.cons (.var 1) .nil)) (.and (.op .eq (.cons (.op (.attr 0) (.cons (.var 0) .nil)) (.cons (.op (.attr 0) (.cons (.var 1) .nil)) .nil))) (.op .eq (.cons (.op (.attr 1) (.cons (.var 0) .nil)) (.cons (.op (.attr 1) (.cons (.var 1) .nil)) .nil)))))) .nil)
def f_Ratio_eq : Fn := ⟨2, [], [], 2, b_Ratio_eq⟩
abbrev e_Ratio_eq : FnE := ⟨2, ("Ratio", some "__eq__"), "Ratio.__eq__", inCls (top 9) 1, ["self", "other"], f_Ratio_eq⟩
def b_Ratio_add : Ss := (.cons (.ret (.new 4 (.cons (.op .add (.cons (.op .mul (.cons (.op (.attr 0) (.cons (.var 0) .nil)) (.cons (.op (.attr 1) (.cons (.var 1) .nil)) .nil))) (.cons (.op .mul (.cons (.op (.attr 0) (.cons (.var 1) .nil)) (.cons (.op (.attr 1) (.cons (.var 0) .nil)) .nil))) .nil))) (.cons (.op .mul (.cons (.op (.attr 1) (.cons (.var 0) .nil)) (.cons (.op (.attr 1) (.cons (.var 1) .nil)) .nil))) .nil)))) .nil)
def f_Ratio_add : Fn := ⟨2, [], [], 2, b_Ratio_add⟩
abbrev e_Ratio_add : FnE := ⟨3, ("Ratio", some "__add__"), "Ratio.__add__", inCls (top 9) 2, ["self", "other"], f_Ratio_add⟩
def b_Ratio_sub : Ss := (.cons (.ret (.new 4 (.cons (.op .sub (.cons (.op .mul (.cons (.op (.attr 0) (.cons (.var 0) .nil)) (.cons (.op (.attr 1) (.cons (.var 1) .nil)) .nil))) (.cons (.op .mul (.cons (.op (.attr 0) (.cons (.var 1) .nil)) (.cons (.op (.attr 1) (.cons (.var 0) .nil)) .nil))) .nil))) (.cons (.op .mul (.cons (.op (.attr 1) (.cons (.var 0) .nil)) (.cons (.op (.attr 1) (.cons (.var 1) .nil)) .nil))) .nil)))) .nil)
def f_Ratio_sub : Fn := ⟨2, [], [], 2, b_Ratio_sub⟩
abbrev e_Ratio_sub : FnE := ⟨4, ("Ratio", some "__sub__"), "Ratio.__sub__", inCls (top 9) 3, ["self", "other"], f_Ratio_sub⟩
def b_Ratio_mul : Ss := (.cons (.ret (.new 4 (.cons (.op .mul (.cons (.op (.attr 0) (.cons (.var 0) .nil)) (.cons (.op (.attr 0) (.cons (.var 1) .nil)) .nil))) (.cons (.op .mul (.cons (.op (.attr 1) (.cons (.var 0) .nil)) (.cons (.op (.attr 1) (.cons (.var 1) .nil)) .nil))) .nil)))) .nil)
def f_Ratio_mul : Fn := ⟨2, [], [], 2, b_Ratio_mul⟩
abbrev e_Ratio_mul : FnE := ⟨5, ("Ratio", some "__mul__"), "Ratio.__mul__", inCls (top 9) 4, ["self", "other"], f_Ratio_mul⟩
def b_Ratio_neg : Ss := (.cons (.ret (.new 4 (.cons (.op .neg (.cons (.op (.attr 0) (.cons (.var 0) .nil)) .nil)) (.cons (.op (.attr 1) (.cons (.var 0) .nil)) .nil)))) .nil)
def f_Ratio_neg : Fn := ⟨1, [], [], 1, b_Ratio_neg⟩
abbrev e_Ratio_neg : FnE := ⟨6, ("Ratio", some "__neg__"), "Ratio.__neg__", inCls (top 9) 5, ["self"], f_Ratio_neg⟩
def b_Ratio_is_zero : Ss := (.cons (.ret (.op .eq (.cons (.op (.attr 0) (.cons (.var 0) .nil)) (.cons (.cst (.int 0)) .nil)))) .nil)
def f_Ratio_is_zero : Fn := ⟨1, [], [], 1, b_Ratio_is_zero⟩
abbrev e_Ratio_is_zero : FnE := ⟨7, ("Ratio", some "is_zero"), "Ratio.is_zero", inCls (top 9) 7, ["self"], f_Ratio_is_zero⟩
def b_Ratio_sign : Ss := (.cons (.ret (.op .sub (.cons (.op .int (.cons (.op .gt (.cons (.op (.attr 0) (.cons (.var 0) .nil)) (.cons (.cst (.int 0)) .nil))) .nil)) (.cons (.op .int (.cons (.op .lt (.cons (.op (.attr 0) (.cons (.var 0) .nil)) (.cons (.cst (.int 0)) .nil))) .nil)) .nil)))) .nil)
def f_Ratio_sign : Fn := ⟨1, [], [], 1, b_Ratio_sign⟩
abbrev e_Ratio_sign : FnE := ⟨8, ("Ratio", some "sign"), "Ratio.sign", inCls (top 9) 8, ["self"], f_Ratio_sign⟩
def b_less : Ss := (.cons (.ret (.op .lt (.cons (.op .mul (.cons (.op (.attr 0) (.cons (.var 0) .nil)) (.cons (.op (.attr 1) (.cons (.var 1) .nil)) .nil))) (.cons (.op .mul (.cons (.op (.attr 0) (.cons (.var 1) .nil)) (.cons (.op (.attr 1) (.cons (.var 0) .nil)) .nil))) .nil)))) .nil)
def f_less : Fn := ⟨2, [], [], 2, b_less⟩
abbrev e_less : FnE := ⟨9, ("less", none), "less", top 10, ["a", "b"], f_less⟩
def b_is_rational : Ss := (.cons (.ret (.or (.op (.isa [.cls 4]) (.cons (.var 0) .nil)) (.call 0 (.cons (.var 0) .nil)))) .nil)
def f_is_rational : Fn := ⟨1, [], [], 1, b_is_rational⟩
abbrev e_is_rational : FnE := ⟨10, ("is_rational", none), "is_rational", top 11, ["value"], f_is_rational⟩
def b_as_ratio : Ss := (.cons (.ifs (.op (.isa [.cls 4]) (.cons (.var 0) .nil)) (.cons (.ret (.var 0)) .nil) .nil) (.cons (.ifs (.not (.call 0 (.cons (.var 0) .nil))) (.cons (.raise 1 (.cons (.cst (.str "a number")) .nil)) .nil) .nil) (.cons (.ret (.new 4 (.cons (.var 0) .nil))) .nil)))
def f_as_ratio : Fn := ⟨1, [], [], 1, b_as_ratio⟩
abbrev e_as_ratio : FnE := ⟨11, ("as_ratio", none), "as_ratio", top 12, ["value"], f_as_ratio⟩
def l_greatest_0 : Ss := (.cons (.ifs (.call 9 (.cons (.var 1) (.cons (.var 2) .nil))) (.cons (.asg (.nm 1) (.var 2)) .nil) .nil) .nil)
def b_greatest : Ss := (.cons (.asg (.nm 1) (.op .idx (.cons (.var 0) (.cons (.cst (.int 0)) .nil)))) (.cons (.for_ (.nm 2) (.seq (.var 0)) l_greatest_0) (.cons (.ret (.var 1)) .nil)))
def f_greatest : Fn := ⟨1, [], [], 3, b_greatest⟩
abbrev e_greatest : FnE := ⟨12, ("greatest", none), "greatest", top 13, ["numbers", "found", "number"], f_greatest⟩
def l_taken_rows_1 : Ss := (.cons (.ifs (.not (.call 10 (.cons (.var 2) .nil))) (.cons (.raise 1 (.cons (.cst (.str "a number")) .nil)) .nil) .nil) (.cons (.kill [2]) .nil))
def l_taken_rows_0 : Ss := (.cons (.ifs (.or (.not (.op (.isa [.list, .tuple]) (.cons (.var 1) .nil))) (.op .ne (.cons (.op .len (.cons (.var 1) .nil)) (.cons (.op .len (.cons (.var 0) .nil)) .nil)))) (.cons (.raise 1 (.cons (.cst (.str "a row")) .nil)) .nil) .nil) (.cons (.for_ (.nm 2) (.seq (.var 1)) l_taken_rows_1) (.cons (.kill [1, 2]) .nil)))
def c_taken_rows_1 : E := (.call 11 (.cons (.var 2) .nil))
def c_taken_rows_0 : E := (.op .tuple (.cons (.lc [2] (.nm 2) (.seq (.var 1)) .nil c_taken_rows_1) .nil))
def b_taken_rows : Ss := (.cons (.ifs (.or (.not (.op (.isa [.list, .tuple]) (.cons (.var 0) .nil))) (.op .eq (.cons (.op .len (.cons (.var 0) .nil)) (.cons (.cst (.int 0)) .nil)))) (.cons (.raise 1 (.cons (.cst (.str "rows")) .nil)) .nil) .nil) (.cons (.for_ (.nm 1) (.seq (.var 0)) l_taken_rows_0) (.cons (.ret (.op .tuple (.cons (.lc [1] (.nm 1) (.seq (.var 0)) .nil c_taken_rows_0) .nil))) .nil)))
def f_taken_rows : Fn := ⟨1, [], [], 3, b_taken_rows⟩
abbrev e_taken_rows : FnE := ⟨13, ("taken_rows", none), "taken_rows", top 16, ["rows", "row", "item"], f_taken_rows⟩
def l_keeps_triangles_2 : Ss := (.cons (.ifs (.op .lt (.cons (.meth 8 (.op .sub (.cons (.op .add (.cons (.op .idx (.cons (.op .idx (.cons (.var 0) (.cons (.var 2) .nil))) (.cons (.var 3) .nil))) (.cons (.op .idx (.cons (.op .idx (.cons (.var 0) (.cons (.var 3) .nil))) (.cons (.var 4) .nil))) .nil))) (.cons (.op .idx (.cons (.op .idx (.cons (.var 0) (.cons (.var 2) .nil))) (.cons (.var 4) .nil))) .nil))) .nil) (.cons (.cst (.int 0)) .nil))) (.cons (.ret (.cst (.bl false))) .nil) .nil) .nil)
def l_keeps_triangles_1 : Ss := (.cons (.ifs (.op .ne (.cons (.op .idx (.cons (.op .idx (.cons (.var 0) (.cons (.var 2) .nil))) (.cons (.var 3) .nil))) (.cons (.op .idx (.cons (.op .idx (.cons (.var 0) (.cons (.var 3) .nil))) (.cons (.var 2) .nil))) .nil))) (.cons (.ret (.cst (.bl false))) .nil) .nil) (.cons (.for_ (.nm 4) (.rng (.cons (.var 1) .nil)) l_keeps_triangles_2) .nil))
def l_keeps_triangles_0 : Ss := (.cons (.ifs (.not (.meth 7 (.op .idx (.cons (.op .idx (.cons (.var 0) (.cons (.var 2) .nil))) (.cons (.var 2) .nil))) .nil)) (.cons (.ret (.cst (.bl false))) .nil) .nil) (.cons (.for_ (.nm 3) (.rng (.cons (.var 1) .nil)) l_keeps_triangles_1) .nil))
def b_keeps_triangles : Ss := (.cons (.asg (.nm 1) (.op .len (.cons (.var 0) .nil))) (.cons (.for_ (.nm 2) (.rng (.cons (.var 1) .nil)) l_keeps_triangles_0) (.cons (.ret (.cst (.bl true))) .nil)))
def f_keeps_triangles : Fn := ⟨1, [], [], 5, b_keeps_triangles⟩
abbrev e_keeps_triangles : FnE := ⟨14, ("keeps_triangles", none), "keeps_triangles", top 17, ["rows", "n", "x", "y", "z"], f_keeps_triangles⟩
def l_is_apart_1 : Ss := (.cons (.ifs (.op .le (.cons (.meth 8 (.op .idx (.cons (.op .idx (.cons (.var 0) (.cons (.var 1) .nil))) (.cons (.var 2) .nil))) .nil) (.cons (.cst (.int 0)) .nil))) (.cons (.ret (.cst (.bl false))) .nil) .nil) .nil)
def l_is_apart_0 : Ss := (.cons (.for_ (.nm 2) (.rng (.cons (.var 1) .nil)) l_is_apart_1) .nil)
def b_is_apart : Ss := (.cons (.for_ (.nm 1) (.rng (.cons (.op .len (.cons (.var 0) .nil)) .nil)) l_is_apart_0) (.cons (.ret (.cst (.bl true))) .nil))
def f_is_apart : Fn := ⟨1, [], [], 3, b_is_apart⟩
abbrev e_is_apart : FnE := ⟨15, ("is_apart", none), "is_apart", top 18, ["rows", "x", "y"], f_is_apart⟩
def b_Metric_init : Ss := (.cons (.asg (.nm 2) (.call 13 (.cons (.var 1) .nil))) (.cons (.ifs (.op .gt (.cons (.op .len (.cons (.var 2) .nil)) (.cons (.glob 0) .nil))) (.cons .bad .nil) .nil) (.cons (.ifs (.or (.not (.call 14 (.cons (.var 2) .nil))) (.not (.call 15 (.cons (.var 2) .nil)))) (.cons .bad .nil) .nil) (.cons (.fld 0 0 (.op .len (.cons (.var 2) .nil))) (.cons (.fld 0 2 (.var 2)) .nil)))))
def f_Metric_init : Fn := ⟨2, [], [0], 3, b_Metric_init⟩
abbrev e_Metric_init : FnE := ⟨16, ("Metric", some "__init__"), "Metric.__init__", inCls (top 19) 0, ["self", "rows", "own"], f_Metric_init⟩
def b_Metric_eq : Ss := (.cons (.ret (.and (.op (.isa [.cls 5]) (.cons (.var 1) .nil)) (.op .eq (.cons (.op (.attr 2) (.cons (.var 0) .nil)) (.cons (.op (.attr 2) (.cons (.var 1) .nil)) .nil))))) .nil)
def f_Metric_eq : Fn := ⟨2, [], [], 2, b_Metric_eq⟩
abbrev e_Metric_eq : FnE := ⟨17, ("Metric", some "__eq__"), "Metric.__eq__", inCls (top 19) 1, ["self", "other"], f_Metric_eq⟩
def l_failing_triple_2 : Ss := (.cons (.ifs (.call 9 (.cons (.call 12 (.cons (.op .lst (.cons (.op .idx (.cons (.op .idx (.cons (.op (.attr 2) (.cons (.var 0) .nil)) (.cons (.var 1) .nil))) (.cons (.var 2) .nil))) (.cons (.op .idx (.cons (.op .idx (.cons (.op (.attr 2) (.cons (.var 0) .nil)) (.cons (.var 2) .nil))) (.cons (.var 3) .nil))) .nil))) .nil)) (.cons (.op .idx (.cons (.op .idx (.cons (.op (.attr 2) (.cons (.var 0) .nil)) (.cons (.var 1) .nil))) (.cons (.var 3) .nil))) .nil))) (.cons (.ret (.op .tup (.cons (.var 1) (.cons (.var 2) (.cons (.var 3) .nil))))) .nil) .nil) (.cons (.kill [3]) .nil))
def l_failing_triple_1 : Ss := (.cons (.for_ (.nm 3) (.rng (.cons (.op (.attr 0) (.cons (.var 0) .nil)) .nil)) l_failing_triple_2) (.cons (.kill [2, 3]) .nil))
def l_failing_triple_0 : Ss := (.cons (.for_ (.nm 2) (.rng (.cons (.op (.attr 0) (.cons (.var 0) .nil)) .nil)) l_failing_triple_1) (.cons (.kill [1, 2, 3]) .nil))
def b_failing_triple : Ss := (.cons (.for_ (.nm 1) (.rng (.cons (.op (.attr 0) (.cons (.var 0) .nil)) .nil)) l_failing_triple_0) (.cons (.ret (.cst .non)) .nil))
def f_failing_triple : Fn := ⟨1, [], [], 4, b_failing_triple⟩
abbrev e_failing_triple : FnE := ⟨18, ("failing_triple", none), "failing_triple", top 21, ["m", "x", "y", "z"], f_failing_triple⟩
def b_is_ultrametric : Ss := (.cons (.ret (.op .is (.cons (.call 18 (.cons (.var 0) .nil)) (.cons (.cst .non) .nil)))) .nil)
def f_is_ultrametric : Fn := ⟨1, [], [], 1, b_is_ultrametric⟩
abbrev e_is_ultrametric : FnE := ⟨19, ("is_ultrametric", none), "is_ultrametric", top 22, ["m"], f_is_ultrametric⟩
def c_single_linkage_0 : E := (.op .list (.cons (.var 4) .nil))
def l_single_linkage_2 : Ss := (.cons (.asg (.nm 6) (.call 12 (.cons (.op .lst (.cons (.ix2 1 (.var 3) (.var 2)) (.cons (.ix2 1 (.var 2) (.var 5)) .nil))) .nil))) (.cons (.ifs (.call 9 (.cons (.var 6) (.cons (.ix2 1 (.var 3) (.var 5)) .nil))) (.cons (.st (.sub2 1 (.var 3) (.var 5)) (.var 6)) .nil) .nil) (.cons (.kill [5, 6]) .nil)))
def l_single_linkage_1 : Ss := (.cons (.for_ (.nm 5) (.rng (.cons (.op (.attr 0) (.cons (.var 0) .nil)) .nil)) l_single_linkage_2) (.cons (.kill [3, 5, 6]) .nil))
def l_single_linkage_0 : Ss := (.cons (.for_ (.nm 3) (.rng (.cons (.op (.attr 0) (.cons (.var 0) .nil)) .nil)) l_single_linkage_1) (.cons (.kill [2, 3, 5, 6]) .nil))
def b_single_linkage : Ss := (.cons (.asg (.nm 1) (.lt [4] (.nm 4) (.seq (.op (.attr 2) (.cons (.var 0) .nil))) c_single_linkage_0)) (.cons (.for_ (.nm 2) (.rng (.cons (.op (.attr 0) (.cons (.var 0) .nil)) .nil)) l_single_linkage_0) (.cons (.frz [1]) (.cons (.ret (.new 5 (.cons (.var 1) .nil))) .nil))))
def f_single_linkage : Fn := ⟨1, [], [], 7, b_single_linkage⟩
abbrev e_single_linkage : FnE := ⟨20, ("single_linkage", none), "single_linkage", top 23, ["m", "rows", "k", "x", "row", "y", "step"], f_single_linkage⟩
def l_law_state_0 : Ss := (.cons (.asg (.nm 1) (.op .add (.cons (.op .mul (.cons (.var 1) (.cons (.cst (.int 1000003)) .nil))) (.cons (.op .abs (.cons (.var 3) .nil)) .nil)))) (.cons (.asg (.nm 2) (.op .mod (.cons (.op .int (.cons (.op .add (.cons (.op .mul (.cons (.var 2) (.cons (.cst (.int 48271)) .nil))) (.cons (.var 3) .nil))) .nil)) (.cons (.cst (.int 2147483647)) .nil)))) .nil))
def b_law_state : Ss := (.cons (.asg (.nm 1) (.cst (.int 0))) (.cons (.asg (.nm 2) (.cst (.int 1))) (.cons (.for_ (.nm 3) (.seq (.op (.slice false true) (.cons (.var 0) (.cons (.cst (.int 63)) .nil)))) l_law_state_0) (.cons (.ret (.op .lst (.cons (.var 1) (.cons (.var 2) .nil)))) .nil))))
def f_law_state : Fn := ⟨1, [], [], 4, b_law_state⟩
abbrev e_law_state : FnE := ⟨21, ("_law_state", none), "_law_state", top 25, ["script", "seed", "total", "cell"], f_law_state⟩
def c_law_odd_0i : Es := (.cons (.call 22 (.cons (.var 1) .nil)) .nil)
def c_law_odd_0 : E := (.var 1)
def b_law_odd : Ss := (.cons (.ifs (.op .eq (.cons (.var 0) (.cons (.cst (.str "a word that nothing else is")) .nil))) (.cons (.ret (.cst (.bl true))) .nil) .nil) (.cons (.ret (.and (.op (.isa [.tuple, .list]) (.cons (.var 0) .nil)) (.op .gt (.cons (.op .len (.cons (.lc [1] (.nm 1) (.seq (.var 0)) c_law_odd_0i c_law_odd_0) .nil)) (.cons (.cst (.int 0)) .nil))))) .nil))
def f_law_odd : Fn := ⟨1, [], [], 2, b_law_odd⟩
abbrev e_law_odd : FnE := ⟨22, ("_law_odd", none), "_law_odd", top 26, ["value", "item"], f_law_odd⟩
def b_law_honest : Ss := (.cons (.ret (.ife (.call 22 (.cons (.var 0) .nil)) (.cst (.str "odd")) (.var 0))) .nil)
def f_law_honest : Fn := ⟨1, [], [], 1, b_law_honest⟩
abbrev e_law_honest : FnE := ⟨23, ("_law_honest", none), "_law_honest", top 27, ["value"], f_law_honest⟩
def b_law_take : Ss := (.cons (.ifs (.op .gt (.cons (.op .idx (.cons (.bor 0) (.cons (.cst (.int 0)) .nil))) (.cons (.cst (.int 0)) .nil))) (.cons (.asg (.nm 2) (.op .mod (.cons (.op .int (.cons (.op .idx (.cons (.bor 0) (.cons (.cst (.int 0)) .nil))) .nil)) (.cons (.var 1) .nil)))) (.cons (.sub 0 (.cst (.int 0)) (.op .fdiv (.cons (.op .idx (.cons (.bor 0) (.cons (.cst (.int 0)) .nil))) (.cons (.var 1) .nil)))) (.cons (.ret (.var 2)) .nil))) .nil) (.cons (.sub 0 (.cst (.int 1)) (.op .mod (.cons (.op .int (.cons (.op .add (.cons (.op .mul (.cons (.op .idx (.cons (.bor 0) (.cons (.cst (.int 1)) .nil))) (.cons (.cst (.int 48271)) .nil))) (.cons (.cst (.int 11)) .nil))) .nil)) (.cons (.cst (.int 2147483647)) .nil)))) (.cons (.ret (.op .mod (.cons (.op .int (.cons (.op .fdiv (.cons (.op .idx (.cons (.bor 0) (.cons (.cst (.int 1)) .nil))) (.cons (.cst (.int 7)) .nil))) .nil)) (.cons (.var 1) .nil)))) .nil)))
def f_law_take : Fn := ⟨2, [], [0], 3, b_law_take⟩
abbrev e_law_take : FnE := ⟨24, ("_law_take", none), "_law_take", top 28, ["state", "m", "value"], f_law_take⟩
def l_law_order_of_0 : Ss := (.cons (.app 3 (.pop 2 (.cons (.call 24 (.cons (.mut 0) (.cons (.op .len (.cons (.bor 2) .nil)) .nil))) .nil))) .nil)
def b_law_order_of : Ss := (.cons (.asg (.nm 2) (.lrg (.cons (.var 1) .nil))) (.cons (.asg (.nm 3) (.op .lst .nil)) (.cons (.for_ (.nm 4) (.rng (.cons (.var 1) .nil)) l_law_order_of_0) (.cons (.ret (.own 3)) .nil))))
def f_law_order_of : Fn := ⟨2, [], [0], 5, b_law_order_of⟩
abbrev e_law_order_of : FnE := ⟨25, ("_law_order_of", none), "_law_order_of", top 29, ["state", "n", "left", "found", "k"], f_law_order_of⟩
def c_law_shortest_0 : E := (.op .list (.cons (.var 5) .nil))
def l_law_shortest_2 : Ss := (.cons (.st (.sub2 2 (.var 4) (.var 6)) (.op .min (.cons (.ix2 2 (.var 4) (.var 6)) (.cons (.op .add (.cons (.ix2 2 (.var 4) (.var 3)) (.cons (.ix2 2 (.var 3) (.var 6)) .nil))) .nil)))) .nil)
def l_law_shortest_1 : Ss := (.cons (.for_ (.nm 6) (.rng (.cons (.var 1) .nil)) l_law_shortest_2) .nil)
def l_law_shortest_0 : Ss := (.cons (.for_ (.nm 4) (.rng (.cons (.var 1) .nil)) l_law_shortest_1) .nil)
def c_law_shortest_1 : E := (.op .tuple (.cons (.var 5) .nil))
def b_law_shortest : Ss := (.cons (.asg (.nm 1) (.op .len (.cons (.var 0) .nil))) (.cons (.asg (.nm 2) (.lt [5] (.nm 5) (.seq (.var 0)) c_law_shortest_0)) (.cons (.for_ (.nm 3) (.rng (.cons (.var 1) .nil)) l_law_shortest_0) (.cons (.ret (.lc [5] (.nm 5) (.seq (.var 2)) .nil c_law_shortest_1)) .nil))))
def f_law_shortest : Fn := ⟨1, [], [], 7, b_law_shortest⟩
abbrev e_law_shortest : FnE := ⟨26, ("_law_shortest", none), "_law_shortest", top 30, ["rows", "n", "found", "k", "x", "row", "y"], f_law_shortest⟩
def c_law_web_1 : E := (.ife (.op .eq (.cons (.var 4) (.cons (.var 5) .nil))) (.cst (.int 0)) (.cst (.int 10000)))
def c_law_web_0 : E := (.lc [5] (.nm 5) (.rng (.cons (.var 1) .nil)) .nil c_law_web_1)
def l_law_web_1 : Ss := (.cons (.ifs (.or (.op .eq (.cons (.var 5) (.cons (.op .sub (.cons (.var 4) (.cons (.cst (.int 1)) .nil))) .nil))) (.op .eq (.cons (.call 24 (.cons (.mut 0) (.cons (.var 2) .nil))) (.cons (.cst (.int 0)) .nil)))) (.cons (.asg (.nm 6) (.var 5)) (.cons (.ifs (.op .eq (.cons (.var 5) (.cons (.op .sub (.cons (.var 4) (.cons (.cst (.int 1)) .nil))) .nil))) (.cons (.asg (.nm 6) (.call 24 (.cons (.mut 0) (.cons (.var 4) .nil)))) .nil) .nil) (.cons (.asg (.nm 7) (.op .add (.cons (.cst (.int 1)) (.cons (.call 24 (.cons (.mut 0) (.cons (.cst (.int 4)) .nil))) .nil)))) (.cons (.sts [(.sub2 3 (.var 4) (.var 6)), (.sub2 3 (.var 6) (.var 4))] (.cons (.var 7) (.cons (.var 7) .nil))) .nil)))) .nil) .nil)
def l_law_web_0 : Ss := (.cons (.for_ (.nm 5) (.rng (.cons (.var 4) .nil)) l_law_web_1) .nil)
def b_law_web : Ss := (.cons (.asg (.nm 3) (.lt [4] (.nm 4) (.rng (.cons (.var 1) .nil)) c_law_web_0)) (.cons (.for_ (.nm 4) (.rng (.cons (.var 1) .nil)) l_law_web_0) (.cons (.ret (.call 26 (.cons (.var 3) .nil))) .nil)))
def f_law_web : Fn := ⟨3, [], [0], 8, b_law_web⟩
abbrev e_law_web : FnE := ⟨27, ("_law_web", none), "_law_web", top 31, ["state", "n", "thick", "rows", "x", "y", "z", "length"], f_law_web⟩
def c_law_renamed_1 : E := (.op .idx (.cons (.op .idx (.cons (.var 0) (.cons (.var 2) .nil))) (.cons (.var 3) .nil)))
def c_law_renamed_0 : E := (.op .tuple (.cons (.lc [3] (.nm 3) (.seq (.var 1)) .nil c_law_renamed_1) .nil))
def b_law_renamed : Ss := (.cons (.ret (.lc [2] (.nm 2) (.seq (.var 1)) .nil c_law_renamed_0)) .nil)
def f_law_renamed : Fn := ⟨2, [], [], 4, b_law_renamed⟩
abbrev e_law_renamed : FnE := ⟨28, ("_law_renamed", none), "_law_renamed", top 32, ["rows", "order", "x", "y"], f_law_renamed⟩
def c_law_of_tree_1 : E := (.ife (.op .eq (.cons (.var 4) (.cons (.var 7) .nil))) (.cst (.int 0)) (.cst (.int 10000)))
def c_law_of_tree_0 : E := (.lc [7] (.nm 7) (.rng (.cons (.var 2) .nil)) .nil c_law_of_tree_1)
def l_law_of_tree_0 : Ss := (.cons (.asg (.nm 5) (.call 24 (.cons (.mut 0) (.cons (.var 4) .nil)))) (.cons (.asg (.nm 6) (.op .add (.cons (.cst (.int 1)) (.cons (.call 24 (.cons (.mut 0) (.cons (.cst (.int 4)) .nil))) .nil)))) (.cons (.sts [(.sub2 3 (.var 4) (.var 5)), (.sub2 3 (.var 5) (.var 4))] (.cons (.var 6) (.cons (.var 6) .nil))) .nil)))
def b_law_of_tree : Ss := (.cons (.asg (.nm 2) (.op .add (.cons (.var 1) (.cons (.call 24 (.cons (.mut 0) (.cons (.cst (.int 3)) .nil))) .nil)))) (.cons (.asg (.nm 3) (.lt [4] (.nm 4) (.rng (.cons (.var 2) .nil)) c_law_of_tree_0)) (.cons (.for_ (.nm 4) (.rng (.cons (.cst (.int 1)) (.cons (.var 2) .nil))) l_law_of_tree_0) (.cons (.ret (.call 28 (.cons (.call 26 (.cons (.var 3) .nil)) (.cons (.op (.slice false true) (.cons (.call 25 (.cons (.mut 0) (.cons (.var 2) .nil))) (.cons (.var 1) .nil))) .nil)))) .nil))))
def f_law_of_tree : Fn := ⟨2, [], [0], 8, b_law_of_tree⟩
abbrev e_law_of_tree : FnE := ⟨29, ("_law_of_tree", none), "_law_of_tree", top 33, ["state", "n", "m", "rows", "x", "z", "length", "y"], f_law_of_tree⟩
def c_law_grid_0 : E := (.op .tup (.cons (.op .fdiv (.cons (.var 5) (.cons (.cst (.int 4)) .nil))) (.cons (.op .mod (.cons (.op .int (.cons (.var 5) .nil)) (.cons (.cst (.int 4)) .nil))) .nil)))
def l_law_grid_0 : Ss := (.cons (.app 3 (.pop 2 (.cons (.call 24 (.cons (.mut 0) (.cons (.op .len (.cons (.bor 2) .nil)) .nil))) .nil))) .nil)
def c_law_grid_2 : E := (.op .add (.cons (.op .abs (.cons (.op .sub (.cons (.op .idx (.cons (.var 6) (.cons (.cst (.int 0)) .nil))) (.cons (.op .idx (.cons (.var 7) (.cons (.cst (.int 0)) .nil))) .nil))) .nil)) (.cons (.op .abs (.cons (.op .sub (.cons (.op .idx (.cons (.var 6) (.cons (.cst (.int 1)) .nil))) (.cons (.op .idx (.cons (.var 7) (.cons (.cst (.int 1)) .nil))) .nil))) .nil)) .nil)))
def c_law_grid_1 : E := (.op .tuple (.cons (.lc [7] (.nm 7) (.seq (.bor 3)) .nil c_law_grid_2) .nil))
def b_law_grid : Ss := (.cons (.asg (.nm 2) (.lc [5] (.nm 5) (.rng (.cons (.cst (.int 16)) .nil)) .nil c_law_grid_0)) (.cons (.asg (.nm 3) (.op .lst .nil)) (.cons (.for_ (.nm 4) (.rng (.cons (.var 1) .nil)) l_law_grid_0) (.cons (.ret (.lc [6] (.nm 6) (.seq (.bor 3)) .nil c_law_grid_1)) .nil))))
def f_law_grid : Fn := ⟨2, [], [0], 8, b_law_grid⟩
abbrev e_law_grid : FnE := ⟨30, ("_law_grid", none), "_law_grid", top 34, ["state", "n", "left", "points", "k", "x", "a", "b"], f_law_grid⟩
def c_law_band_1 : E := (.cst (.int 0))
def c_law_band_0 : E := (.lc [5] (.nm 5) (.rng (.cons (.var 1) .nil)) .nil c_law_band_1)
def l_law_band_1 : Ss := (.cons (.asg (.nm 6) (.op .add (.cons (.var 2) (.cons (.call 24 (.cons (.mut 0) (.cons (.op .add (.cons (.var 2) (.cons (.cst (.int 1)) .nil))) .nil))) .nil)))) (.cons (.sts [(.sub2 3 (.var 4) (.var 5)), (.sub2 3 (.var 5) (.var 4))] (.cons (.var 6) (.cons (.var 6) .nil))) .nil))
def l_law_band_0 : Ss := (.cons (.for_ (.nm 5) (.rng (.cons (.var 4) .nil)) l_law_band_1) .nil)
def c_law_band_2 : E := (.op .tuple (.cons (.var 7) .nil))
def b_law_band : Ss := (.cons (.asg (.nm 2) (.op .add (.cons (.cst (.int 1)) (.cons (.call 24 (.cons (.mut 0) (.cons (.cst (.int 3)) .nil))) .nil)))) (.cons (.asg (.nm 3) (.lt [4] (.nm 4) (.rng (.cons (.var 1) .nil)) c_law_band_0)) (.cons (.for_ (.nm 4) (.rng (.cons (.var 1) .nil)) l_law_band_0) (.cons (.ret (.lc [7] (.nm 7) (.seq (.var 3)) .nil c_law_band_2)) .nil))))
def f_law_band : Fn := ⟨2, [], [0], 8, b_law_band⟩
abbrev e_law_band : FnE := ⟨31, ("_law_band", none), "_law_band", top 35, ["state", "n", "low", "rows", "x", "y", "length", "row"], f_law_band⟩
def l_law_levels_0 : Ss := (.cons (.app 2 (.op .add (.cons (.op .add (.cons (.op .idx (.cons (.bor 2) (.cons (.op .neg (.cons (.cst (.int 1)) .nil)) .nil))) (.cons (.cst (.int 1)) .nil))) (.cons (.call 24 (.cons (.mut 0) (.cons (.cst (.int 3)) .nil))) .nil)))) .nil)
def c_law_levels_0 : E := (.op .tup (.cons (.call 24 (.cons (.mut 0) (.cons (.cst (.int 2)) .nil))) (.cons (.call 24 (.cons (.mut 0) (.cons (.cst (.int 2)) .nil))) (.cons (.var 9) .nil))))
def c_law_levels_1i : Es := (.cons (.op .ne (.cons (.op .idx (.cons (.var 6) (.cons (.var 3) .nil))) (.cons (.op .idx (.cons (.var 8) (.cons (.var 3) .nil))) .nil))) .nil)
def c_law_levels_1 : E := (.var 3)
def l_law_levels_2 : Ss := (.cons (.asg (.nm 10) (.lc [3] (.nm 3) (.rng (.cons (.cst (.int 3)) .nil)) c_law_levels_1i c_law_levels_1)) (.cons (.app 7 (.ife (.op .eq (.cons (.op .len (.cons (.var 10) .nil)) (.cons (.cst (.int 0)) .nil))) (.cst (.int 0)) (.op .idx (.cons (.bor 2) (.cons (.op .sub (.cons (.cst (.int 2)) (.cons (.op .idx (.cons (.var 10) (.cons (.cst (.int 0)) .nil))) .nil))) .nil))))) .nil))
def l_law_levels_1 : Ss := (.cons (.asg (.nm 7) (.op .lst .nil)) (.cons (.for_ (.nm 8) (.seq (.var 4)) l_law_levels_2) (.cons (.app 5 (.op .tuple (.cons (.bor 7) .nil))) .nil)))
def b_law_levels : Ss := (.cons (.asg (.nm 2) (.op .lst (.cons (.op .add (.cons (.cst (.int 1)) (.cons (.call 24 (.cons (.mut 0) (.cons (.cst (.int 2)) .nil))) .nil))) .nil))) (.cons (.for_ (.nm 3) (.rng (.cons (.cst (.int 2)) .nil)) l_law_levels_0) (.cons (.asg (.nm 4) (.lc [9] (.nm 9) (.rng (.cons (.var 1) .nil)) .nil c_law_levels_0)) (.cons (.asg (.nm 5) (.op .lst .nil)) (.cons (.for_ (.nm 6) (.seq (.var 4)) l_law_levels_1) (.cons (.ret (.own 5)) .nil))))))
def f_law_levels : Fn := ⟨2, [], [0], 11, b_law_levels⟩
abbrev e_law_levels : FnE := ⟨32, ("_law_levels", none), "_law_levels", top 36, ["state", "n", "heights", "k", "words", "rows", "one", "row", "two", "x", "apart"], f_law_levels⟩
def b_law_rows : Ss := (.cons (.asg (.nm 2) (.op .add (.cons (.cst (.int 1)) (.cons (.call 24 (.cons (.mut 0) (.cons (.var 1) .nil))) .nil)))) (.cons (.asg (.nm 3) (.call 24 (.cons (.mut 0) (.cons (.cst (.int 6)) .nil)))) (.cons (.ifs (.op .eq (.cons (.var 3) (.cons (.cst (.int 0)) .nil))) (.cons (.ret (.call 27 (.cons (.mut 0) (.cons (.var 2) (.cons (.cst (.int 2)) .nil))))) .nil) .nil) (.cons (.ifs (.op .eq (.cons (.var 3) (.cons (.cst (.int 1)) .nil))) (.cons (.ret (.call 27 (.cons (.mut 0) (.cons (.var 2) (.cons (.cst (.int 5)) .nil))))) .nil) .nil) (.cons (.ifs (.op .eq (.cons (.var 3) (.cons (.cst (.int 2)) .nil))) (.cons (.ret (.call 29 (.cons (.mut 0) (.cons (.var 2) .nil)))) .nil) .nil) (.cons (.ifs (.op .eq (.cons (.var 3) (.cons (.cst (.int 3)) .nil))) (.cons (.ret (.call 30 (.cons (.mut 0) (.cons (.var 2) .nil)))) .nil) .nil) (.cons (.ifs (.op .eq (.cons (.var 3) (.cons (.cst (.int 4)) .nil))) (.cons (.ret (.call 31 (.cons (.mut 0) (.cons (.var 2) .nil)))) .nil) .nil) (.cons (.ret (.call 32 (.cons (.mut 0) (.cons (.var 2) .nil)))) .nil))))))))
def f_law_rows : Fn := ⟨2, [], [0], 4, b_law_rows⟩
abbrev e_law_rows : FnE := ⟨33, ("_law_rows", none), "_law_rows", top 37, ["state", "most", "n", "pick"], f_law_rows⟩
def b_law_factor : Ss := (.cons (.ret (.op .tup (.cons (.op .add (.cons (.cst (.int 1)) (.cons (.call 24 (.cons (.mut 0) (.cons (.cst (.int 4)) .nil))) .nil))) (.cons (.op .add (.cons (.cst (.int 1)) (.cons (.call 24 (.cons (.mut 0) (.cons (.cst (.int 3)) .nil))) .nil))) .nil)))) .nil)
def f_law_factor : Fn := ⟨1, [], [0], 1, b_law_factor⟩
abbrev e_law_factor : FnE := ⟨34, ("_law_factor", none), "_law_factor", top 38, ["state"], f_law_factor⟩
def c_law_ratios_1 : E := (.new 4 (.cons (.op .mul (.cons (.var 3) (.cons (.op .idx (.cons (.var 1) (.cons (.cst (.int 0)) .nil))) .nil))) (.cons (.op .idx (.cons (.var 1) (.cons (.cst (.int 1)) .nil))) .nil)))
def c_law_ratios_0 : E := (.op .tuple (.cons (.lc [3] (.nm 3) (.seq (.var 2)) .nil c_law_ratios_1) .nil))
def b_law_ratios : Ss := (.cons (.ret (.op .tuple (.cons (.lc [2] (.nm 2) (.seq (.var 0)) .nil c_law_ratios_0) .nil))) .nil)
def f_law_ratios : Fn := ⟨2, [], [], 4, b_law_ratios⟩
abbrev e_law_ratios : FnE := ⟨35, ("_law_ratios", none), "_law_ratios", top 39, ["rows", "factor", "row", "x"], f_law_ratios⟩
def c_law_steps_0i : Es := (.cons (.op .ne (.cons (.var 7) (.cons (.var 5) .nil))) .nil)
def c_law_steps_0 : E := (.var 7)
def l_law_steps_0 : Ss := (.cons (.ifs (.op .ne (.cons (.var 5) (.cons (.var 2) .nil))) (.cons (.asg (.nm 6) (.lc [7] (.nm 7) (.seq (.var 3)) c_law_steps_0i c_law_steps_0)) (.cons (.frz [6]) (.cons (.asg (.nm 4) (.op .min (.cons (.var 4) (.cons (.op .max (.cons (.op .idx (.cons (.op .idx (.cons (.var 0) (.cons (.var 1) .nil))) (.cons (.var 5) .nil))) (.cons (.call 36 (.cons (.var 0) (.cons (.var 5) (.cons (.var 2) (.cons (.var 6) .nil))))) .nil))) .nil)))) .nil))) .nil) (.cons (.kill [5, 6]) .nil))
def b_law_steps : Ss := (.cons (.asg (.nm 4) (.op .idx (.cons (.op .idx (.cons (.var 0) (.cons (.var 1) .nil))) (.cons (.var 2) .nil)))) (.cons (.for_ (.nm 5) (.seq (.var 3)) l_law_steps_0) (.cons (.ret (.var 4)) .nil)))
def f_law_steps : Fn := ⟨4, [], [], 8, b_law_steps⟩
abbrev e_law_steps : FnE := ⟨36, ("_law_steps", none), "_law_steps", top 40, ["rows", "x", "y", "left", "best", "z", "rest", "w"], f_law_steps⟩
def c_law_1i : Es := (.cons (.op .ne (.cons (.var 11) (.cons (.var 7) .nil))) .nil)
def c_law_1 : E := (.var 11)
def c_law_0 : E := (.ife (.op .eq (.cons (.var 7) (.cons (.var 10) .nil))) (.cst (.int 0)) (.call 36 (.cons (.var 2) (.cons (.var 7) (.cons (.var 10) (.cons (.lc [11] (.nm 11) (.rng (.cons (.var 3) .nil)) c_law_1i c_law_1) .nil))))))
def l_law_0 : Ss := (.cons (.app 6 (.lc [10] (.nm 10) (.rng (.cons (.var 3) .nil)) .nil c_law_0)) (.cons (.kill [7]) .nil))
def l_law_2 : Ss := (.cons (.ifs (.op .gt (.cons (.op .idx (.cons (.op .idx (.cons (.bor 6) (.cons (.var 7) .nil))) (.cons (.var 10) .nil))) (.cons (.op .idx (.cons (.op .idx (.cons (.var 2) (.cons (.var 7) .nil))) (.cons (.var 10) .nil))) .nil))) (.cons (.ret (.cst (.bl false))) .nil) .nil) (.cons (.ifs (.op .gt (.cons (.op .idx (.cons (.op .idx (.cons (.var 8) (.cons (.var 7) .nil))) (.cons (.var 10) .nil))) (.cons (.op .idx (.cons (.op .idx (.cons (.var 2) (.cons (.var 7) .nil))) (.cons (.var 10) .nil))) .nil))) (.cons (.asg (.nm 9) (.cst (.bl false))) .nil) .nil) (.cons (.kill [10]) .nil)))
def l_law_1 : Ss := (.cons (.for_ (.nm 10) (.rng (.cons (.var 3) .nil)) l_law_2) (.cons (.kill [7, 10]) .nil))
def l_law_4 : Ss := (.cons (.ifs (.op .gt (.cons (.op .idx (.cons (.op .idx (.cons (.var 8) (.cons (.var 7) .nil))) (.cons (.var 10) .nil))) (.cons (.op .idx (.cons (.op .idx (.cons (.bor 6) (.cons (.var 7) .nil))) (.cons (.var 10) .nil))) .nil))) (.cons (.ret (.cst (.bl false))) .nil) .nil) (.cons (.kill [10]) .nil))
def l_law_3 : Ss := (.cons (.for_ (.nm 10) (.rng (.cons (.var 3) .nil)) l_law_4) (.cons (.kill [7, 10]) .nil))
def t_law_5 : Ss := (.cons (.ret (.cst (.bl true))) .nil)
def t_law_4 : Ss := (.cons (.kill [2]) (.cons (.ifs (.var 9) (.cons (.kill [9]) (.cons (.for_ (.nm 7) (.rng (.cons (.var 3) .nil)) l_law_3) .nil)) .nil) t_law_5))
def t_law_3 : Ss := (.cons (.kill [1, 4, 5]) (.cons (.for_ (.nm 7) (.rng (.cons (.var 3) .nil)) l_law_1) t_law_4))
def t_law_2 : Ss := (.cons (.asg (.nm 8) (.call 32 (.cons (.mut 1) (.cons (.var 3) .nil)))) (.cons (.frz [8]) (.cons (.asg (.nm 9) (.cst (.bl true))) t_law_3)))
def t_law_1 : Ss := (.cons (.ifs (.or (.op .ne (.cons (.op (.attr 2) (.cons (.var 5) .nil)) (.cons (.call 35 (.cons (.bor 6) (.cons (.var 4) .nil))) .nil))) (.not (.call 19 (.cons (.var 5) .nil)))) (.cons (.ret (.cst (.bl false))) .nil) .nil) t_law_2)
def t_law_0 : Ss := (.cons (.kill [0]) (.cons (.for_ (.nm 7) (.rng (.cons (.var 3) .nil)) l_law_0) t_law_1))
def b_law : Ss := (.cons (.asg (.nm 1) (.call 21 (.cons (.var 0) .nil))) (.cons (.asg (.nm 2) (.call 33 (.cons (.mut 1) (.cons (.cst (.int 5)) .nil)))) (.cons (.frz [2]) (.cons (.asg (.nm 3) (.op .len (.cons (.var 2) .nil))) (.cons (.asg (.nm 4) (.call 34 (.cons (.mut 1) .nil))) (.cons (.asg (.nm 5) (.call 23 (.cons (.call 20 (.cons (.new 5 (.cons (.call 35 (.cons (.var 2) (.cons (.var 4) .nil))) .nil)) .nil)) .nil))) (.cons (.asg (.nm 6) (.op .lst .nil)) t_law_0)))))))
def f_law : Fn := ⟨1, [], [], 12, b_law⟩
abbrev e_law : FnE := ⟨37, ("law", none), "law", top 41, ["script", "state", "rows", "n", "factor", "told", "due", "x", "other", "below", "y", "z"], f_law⟩
def tab : Tab where
  fns := [e_is_integer, e_Ratio_init, e_Ratio_eq, e_Ratio_add, e_Ratio_sub, e_Ratio_mul, e_Ratio_neg, e_Ratio_is_zero, e_Ratio_sign, e_less, e_is_rational, e_as_ratio, e_greatest, e_taken_rows, e_keeps_triangles, e_is_apart, e_Metric_init, e_Metric_eq, e_failing_triple, e_is_ultrametric, e_single_linkage, e_law_state, e_law_odd, e_law_honest, e_law_take, e_law_order_of, e_law_shortest, e_law_web, e_law_renamed, e_law_of_tree, e_law_grid, e_law_band, e_law_levels, e_law_rows, e_law_factor, e_law_ratios, e_law_steps, e_law]
  cls := [⟨"Fault", [], [], [0], true, false, false, none⟩,
    ⟨"Malformed", [], [], [0, 1], true, true, false, none⟩,
    ⟨"ZeroDivisor", [], [], [0, 2], true, true, false, none⟩,
    ⟨"Refused", [], [], [0, 3], true, false, false, none⟩,
    ⟨"Ratio", [0, 1], [(0, 1), (1, 2), (2, 3), (3, 4), (4, 5), (5, 6), (7, 7), (8, 8)], [4], false, false, false, none⟩,
    ⟨"Metric", [0, 2], [(0, 16), (1, 17)], [5], false, false, false, none⟩]
  fnm := ["n", "d", "rows"]
  mnm := ["__init__", "__eq__", "__add__", "__sub__", "__mul__", "__neg__", "__str__", "is_zero", "sign"]
  globs := [("MOST", (.int 8))]
  gcd := true
theorem bp_is_integer : BindP e_is_integer := .no rfl fun _ _ _ _ _ _ us hl => match us, hl with | [_], _ => rfl
theorem bp_Ratio_init : BindP e_Ratio_init := .df (by decide +kernel) fun j hj A kV doc pm an cdv ct us its h1 h2 => match j, hj, us, its, h1, h2 with
  | 0, _, [_, _], [_], _, _ => ⟨_, rfl, rfl⟩
  | 1, _, [_, _, _], [_], _, _ => ⟨_, rfl, rfl⟩
theorem bp_Ratio_eq : BindP e_Ratio_eq := .no rfl fun _ _ _ _ _ _ us hl => match us, hl with | [_, _], _ => rfl
theorem bp_Ratio_add : BindP e_Ratio_add := .no rfl fun _ _ _ _ _ _ us hl => match us, hl with | [_, _], _ => rfl
theorem bp_Ratio_sub : BindP e_Ratio_sub := .no rfl fun _ _ _ _ _ _ us hl => match us, hl with | [_, _], _ => rfl
theorem bp_Ratio_mul : BindP e_Ratio_mul := .no rfl fun _ _ _ _ _ _ us hl => match us, hl with | [_, _], _ => rfl
theorem bp_Ratio_neg : BindP e_Ratio_neg := .no rfl fun _ _ _ _ _ _ us hl => match us, hl with | [_], _ => rfl
theorem bp_Ratio_is_zero : BindP e_Ratio_is_zero := .no rfl fun _ _ _ _ _ _ us hl => match us, hl with | [_], _ => rfl
theorem bp_Ratio_sign : BindP e_Ratio_sign := .no rfl fun _ _ _ _ _ _ us hl => match us, hl with | [_], _ => rfl
theorem bp_less : BindP e_less := .no rfl fun _ _ _ _ _ _ us hl => match us, hl with | [_, _], _ => rfl
theorem bp_is_rational : BindP e_is_rational := .no rfl fun _ _ _ _ _ _ us hl => match us, hl with | [_], _ => rfl
theorem bp_as_ratio : BindP e_as_ratio := .no rfl fun _ _ _ _ _ _ us hl => match us, hl with | [_], _ => rfl
theorem bp_greatest : BindP e_greatest := .no rfl fun _ _ _ _ _ _ us hl => match us, hl with | [_], _ => rfl
theorem bp_taken_rows : BindP e_taken_rows := .no rfl fun _ _ _ _ _ _ us hl => match us, hl with | [_], _ => rfl
theorem bp_keeps_triangles : BindP e_keeps_triangles := .no rfl fun _ _ _ _ _ _ us hl => match us, hl with | [_], _ => rfl
theorem bp_is_apart : BindP e_is_apart := .no rfl fun _ _ _ _ _ _ us hl => match us, hl with | [_], _ => rfl
theorem bp_Metric_init : BindP e_Metric_init := .no rfl fun _ _ _ _ _ _ us hl => match us, hl with | [_, _], _ => rfl
theorem bp_Metric_eq : BindP e_Metric_eq := .no rfl fun _ _ _ _ _ _ us hl => match us, hl with | [_, _], _ => rfl
theorem bp_failing_triple : BindP e_failing_triple := .no rfl fun _ _ _ _ _ _ us hl => match us, hl with | [_], _ => rfl
theorem bp_is_ultrametric : BindP e_is_ultrametric := .no rfl fun _ _ _ _ _ _ us hl => match us, hl with | [_], _ => rfl
theorem bp_single_linkage : BindP e_single_linkage := .no rfl fun _ _ _ _ _ _ us hl => match us, hl with | [_], _ => rfl
theorem bp_law_state : BindP e_law_state := .no rfl fun _ _ _ _ _ _ us hl => match us, hl with | [_], _ => rfl
theorem bp_law_odd : BindP e_law_odd := .no rfl fun _ _ _ _ _ _ us hl => match us, hl with | [_], _ => rfl
theorem bp_law_honest : BindP e_law_honest := .no rfl fun _ _ _ _ _ _ us hl => match us, hl with | [_], _ => rfl
theorem bp_law_take : BindP e_law_take := .no rfl fun _ _ _ _ _ _ us hl => match us, hl with | [_, _], _ => rfl
theorem bp_law_order_of : BindP e_law_order_of := .no rfl fun _ _ _ _ _ _ us hl => match us, hl with | [_, _], _ => rfl
theorem bp_law_shortest : BindP e_law_shortest := .no rfl fun _ _ _ _ _ _ us hl => match us, hl with | [_], _ => rfl
theorem bp_law_web : BindP e_law_web := .no rfl fun _ _ _ _ _ _ us hl => match us, hl with | [_, _, _], _ => rfl
theorem bp_law_renamed : BindP e_law_renamed := .no rfl fun _ _ _ _ _ _ us hl => match us, hl with | [_, _], _ => rfl
theorem bp_law_of_tree : BindP e_law_of_tree := .no rfl fun _ _ _ _ _ _ us hl => match us, hl with | [_, _], _ => rfl
theorem bp_law_grid : BindP e_law_grid := .no rfl fun _ _ _ _ _ _ us hl => match us, hl with | [_, _], _ => rfl
theorem bp_law_band : BindP e_law_band := .no rfl fun _ _ _ _ _ _ us hl => match us, hl with | [_, _], _ => rfl
theorem bp_law_levels : BindP e_law_levels := .no rfl fun _ _ _ _ _ _ us hl => match us, hl with | [_, _], _ => rfl
theorem bp_law_rows : BindP e_law_rows := .no rfl fun _ _ _ _ _ _ us hl => match us, hl with | [_, _], _ => rfl
theorem bp_law_factor : BindP e_law_factor := .no rfl fun _ _ _ _ _ _ us hl => match us, hl with | [_], _ => rfl
theorem bp_law_ratios : BindP e_law_ratios := .no rfl fun _ _ _ _ _ _ us hl => match us, hl with | [_, _], _ => rfl
theorem bp_law_steps : BindP e_law_steps := .no rfl fun _ _ _ _ _ _ us hl => match us, hl with | [_, _, _, _], _ => rfl
theorem bp_law : BindP e_law := .no rfl fun _ _ _ _ _ _ us hl => match us, hl with | [_], _ => rfl
theorem bps : ∀ e ∈ tab.fns, BindP e := fun e he => by
  simp only [tab, List.mem_cons, List.not_mem_nil, or_false] at he
  rcases he with rfl | rfl | rfl | rfl | rfl | rfl | rfl | rfl | rfl | rfl | rfl | rfl | rfl | rfl | rfl | rfl | rfl | rfl | rfl | rfl | rfl | rfl | rfl | rfl | rfl | rfl | rfl | rfl | rfl | rfl | rfl | rfl | rfl | rfl | rfl | rfl | rfl | rfl
  · exact bp_is_integer
  · exact bp_Ratio_init
  · exact bp_Ratio_eq
  · exact bp_Ratio_add
  · exact bp_Ratio_sub
  · exact bp_Ratio_mul
  · exact bp_Ratio_neg
  · exact bp_Ratio_is_zero
  · exact bp_Ratio_sign
  · exact bp_less
  · exact bp_is_rational
  · exact bp_as_ratio
  · exact bp_greatest
  · exact bp_taken_rows
  · exact bp_keeps_triangles
  · exact bp_is_apart
  · exact bp_Metric_init
  · exact bp_Metric_eq
  · exact bp_failing_triple
  · exact bp_is_ultrametric
  · exact bp_single_linkage
  · exact bp_law_state
  · exact bp_law_odd
  · exact bp_law_honest
  · exact bp_law_take
  · exact bp_law_order_of
  · exact bp_law_shortest
  · exact bp_law_web
  · exact bp_law_renamed
  · exact bp_law_of_tree
  · exact bp_law_grid
  · exact bp_law_band
  · exact bp_law_levels
  · exact bp_law_rows
  · exact bp_law_factor
  · exact bp_law_ratios
  · exact bp_law_steps
  · exact bp_law
theorem stat : statB tab = true := by kernel_rfl
theorem fnsB (K : PySem.W.Frag) : tab.fns.all (fnB tab K) = true := by kernel_rfl
end Law
namespace Law
open Ev
open Ev (E S Fn)
def P : Prog := tab.prog
theorem ap_is_integer_1 {C : Orc} {ρ : EnvD} {x0 : D} : apply P C 0 [.d x0] ρ = putR false [] ρ (C 0 [.fr x0]) := ap1 (F := f_is_integer) rfl rfl
theorem mk_Ratio_1 {C : Orc} {ρ : EnvD} {x0 : D} : make P C 4 [.d x0] ρ = newR 4 ρ (C 1 [.oi 4 [] [], .fr x0]) := mk1 (f := 1) (F := f_Ratio_init) rfl rfl rfl
theorem mk_Ratio_2 {C : Orc} {ρ : EnvD} {x0 x1 : D} : make P C 4 [.d x0, .d x1] ρ = newR 4 ρ (C 1 [.oi 4 [] [], .fr x0, .fr x1]) := mk2 (f := 1) (F := f_Ratio_init) rfl rfl rfl
theorem ap_Ratio_eq_2 {C : Orc} {ρ : EnvD} {x0 x1 : D} : apply P C 2 [.d x0, .d x1] ρ = putR false [] ρ (C 2 [.fr x0, .fr x1]) := ap2 (F := f_Ratio_eq) rfl rfl
theorem ap_Ratio_add_2 {C : Orc} {ρ : EnvD} {x0 x1 : D} : apply P C 3 [.d x0, .d x1] ρ = putR false [] ρ (C 3 [.fr x0, .fr x1]) := ap2 (F := f_Ratio_add) rfl rfl
theorem ap_Ratio_sub_2 {C : Orc} {ρ : EnvD} {x0 x1 : D} : apply P C 4 [.d x0, .d x1] ρ = putR false [] ρ (C 4 [.fr x0, .fr x1]) := ap2 (F := f_Ratio_sub) rfl rfl
theorem ap_Ratio_mul_2 {C : Orc} {ρ : EnvD} {x0 x1 : D} : apply P C 5 [.d x0, .d x1] ρ = putR false [] ρ (C 5 [.fr x0, .fr x1]) := ap2 (F := f_Ratio_mul) rfl rfl
theorem ap_Ratio_neg_1 {C : Orc} {ρ : EnvD} {x0 : D} : apply P C 6 [.d x0] ρ = putR false [] ρ (C 6 [.fr x0]) := ap1 (F := f_Ratio_neg) rfl rfl
theorem ap_Ratio_is_zero_1 {C : Orc} {ρ : EnvD} {x0 : D} : apply P C 7 [.d x0] ρ = putR false [] ρ (C 7 [.fr x0]) := ap1 (F := f_Ratio_is_zero) rfl rfl
theorem ap_Ratio_sign_1 {C : Orc} {ρ : EnvD} {x0 : D} : apply P C 8 [.d x0] ρ = putR false [] ρ (C 8 [.fr x0]) := ap1 (F := f_Ratio_sign) rfl rfl
theorem ap_less_2 {C : Orc} {ρ : EnvD} {x0 x1 : D} : apply P C 9 [.d x0, .d x1] ρ = putR false [] ρ (C 9 [.fr x0, .fr x1]) := ap2 (F := f_less) rfl rfl
theorem ap_is_rational_1 {C : Orc} {ρ : EnvD} {x0 : D} : apply P C 10 [.d x0] ρ = putR false [] ρ (C 10 [.fr x0]) := ap1 (F := f_is_rational) rfl rfl
theorem ap_as_ratio_1 {C : Orc} {ρ : EnvD} {x0 : D} : apply P C 11 [.d x0] ρ = putR false [] ρ (C 11 [.fr x0]) := ap1 (F := f_as_ratio) rfl rfl
theorem ap_greatest_1 {C : Orc} {ρ : EnvD} {x0 : D} : apply P C 12 [.d x0] ρ = putR false [] ρ (C 12 [.fr x0]) := ap1 (F := f_greatest) rfl rfl
theorem ap_taken_rows_1 {C : Orc} {ρ : EnvD} {x0 : D} : apply P C 13 [.d x0] ρ = putR false [] ρ (C 13 [.fr x0]) := ap1 (F := f_taken_rows) rfl rfl
theorem ap_keeps_triangles_1 {C : Orc} {ρ : EnvD} {x0 : D} : apply P C 14 [.d x0] ρ = putR false [] ρ (C 14 [.fr x0]) := ap1 (F := f_keeps_triangles) rfl rfl
theorem ap_is_apart_1 {C : Orc} {ρ : EnvD} {x0 : D} : apply P C 15 [.d x0] ρ = putR false [] ρ (C 15 [.fr x0]) := ap1 (F := f_is_apart) rfl rfl
theorem mk_Metric_1 {C : Orc} {ρ : EnvD} {x0 : D} : make P C 5 [.d x0] ρ = newR 5 ρ (C 16 [.oi 5 [] [], .fr x0]) := mk1 (f := 16) (F := f_Metric_init) rfl rfl rfl
theorem ap_Metric_eq_2 {C : Orc} {ρ : EnvD} {x0 x1 : D} : apply P C 17 [.d x0, .d x1] ρ = putR false [] ρ (C 17 [.fr x0, .fr x1]) := ap2 (F := f_Metric_eq) rfl rfl
theorem ap_failing_triple_1 {C : Orc} {ρ : EnvD} {x0 : D} : apply P C 18 [.d x0] ρ = putR false [] ρ (C 18 [.fr x0]) := ap1 (F := f_failing_triple) rfl rfl
theorem ap_is_ultrametric_1 {C : Orc} {ρ : EnvD} {x0 : D} : apply P C 19 [.d x0] ρ = putR false [] ρ (C 19 [.fr x0]) := ap1 (F := f_is_ultrametric) rfl rfl
theorem ap_single_linkage_1 {C : Orc} {ρ : EnvD} {x0 : D} : apply P C 20 [.d x0] ρ = putR false [] ρ (C 20 [.fr x0]) := ap1 (F := f_single_linkage) rfl rfl
theorem ap_law_state_1 {C : Orc} {ρ : EnvD} {x0 : D} : apply P C 21 [.d x0] ρ = putR false [] ρ (C 21 [.fr x0]) := ap1 (F := f_law_state) rfl rfl
theorem ap_law_odd_1 {C : Orc} {ρ : EnvD} {x0 : D} : apply P C 22 [.d x0] ρ = putR false [] ρ (C 22 [.fr x0]) := ap1 (F := f_law_odd) rfl rfl
theorem ap_law_honest_1 {C : Orc} {ρ : EnvD} {x0 : D} : apply P C 23 [.d x0] ρ = putR false [] ρ (C 23 [.fr x0]) := ap1 (F := f_law_honest) rfl rfl
theorem ap_law_take_1 {C : Orc} {ρ : EnvD} {i : Nat} {x0 : D} : apply P C 24 [.m i, .d x0] ρ = bO (ownE (Ev.get ρ i)) fun e => putR false [i] ρ (C 24 [e, .fr x0]) := apm1 (F := f_law_take) rfl rfl
theorem ap_law_order_of_1 {C : Orc} {ρ : EnvD} {i : Nat} {x0 : D} : apply P C 25 [.m i, .d x0] ρ = bO (ownE (Ev.get ρ i)) fun e => putR false [i] ρ (C 25 [e, .fr x0]) := apm1 (F := f_law_order_of) rfl rfl
theorem ap_law_shortest_1 {C : Orc} {ρ : EnvD} {x0 : D} : apply P C 26 [.d x0] ρ = putR false [] ρ (C 26 [.fr x0]) := ap1 (F := f_law_shortest) rfl rfl
theorem ap_law_web_2 {C : Orc} {ρ : EnvD} {i : Nat} {x0 x1 : D} : apply P C 27 [.m i, .d x0, .d x1] ρ = bO (ownE (Ev.get ρ i)) fun e => putR false [i] ρ (C 27 [e, .fr x0, .fr x1]) := apm2 (F := f_law_web) rfl rfl
theorem ap_law_renamed_2 {C : Orc} {ρ : EnvD} {x0 x1 : D} : apply P C 28 [.d x0, .d x1] ρ = putR false [] ρ (C 28 [.fr x0, .fr x1]) := ap2 (F := f_law_renamed) rfl rfl
theorem ap_law_of_tree_1 {C : Orc} {ρ : EnvD} {i : Nat} {x0 : D} : apply P C 29 [.m i, .d x0] ρ = bO (ownE (Ev.get ρ i)) fun e => putR false [i] ρ (C 29 [e, .fr x0]) := apm1 (F := f_law_of_tree) rfl rfl
theorem ap_law_grid_1 {C : Orc} {ρ : EnvD} {i : Nat} {x0 : D} : apply P C 30 [.m i, .d x0] ρ = bO (ownE (Ev.get ρ i)) fun e => putR false [i] ρ (C 30 [e, .fr x0]) := apm1 (F := f_law_grid) rfl rfl
theorem ap_law_band_1 {C : Orc} {ρ : EnvD} {i : Nat} {x0 : D} : apply P C 31 [.m i, .d x0] ρ = bO (ownE (Ev.get ρ i)) fun e => putR false [i] ρ (C 31 [e, .fr x0]) := apm1 (F := f_law_band) rfl rfl
theorem ap_law_levels_1 {C : Orc} {ρ : EnvD} {i : Nat} {x0 : D} : apply P C 32 [.m i, .d x0] ρ = bO (ownE (Ev.get ρ i)) fun e => putR false [i] ρ (C 32 [e, .fr x0]) := apm1 (F := f_law_levels) rfl rfl
theorem ap_law_rows_1 {C : Orc} {ρ : EnvD} {i : Nat} {x0 : D} : apply P C 33 [.m i, .d x0] ρ = bO (ownE (Ev.get ρ i)) fun e => putR false [i] ρ (C 33 [e, .fr x0]) := apm1 (F := f_law_rows) rfl rfl
theorem ap_law_factor_0 {C : Orc} {ρ : EnvD} {i : Nat} : apply P C 34 [.m i] ρ = bO (ownE (Ev.get ρ i)) fun e => putR false [i] ρ (C 34 [e]) := apm0 (F := f_law_factor) rfl rfl
theorem ap_law_ratios_2 {C : Orc} {ρ : EnvD} {x0 x1 : D} : apply P C 35 [.d x0, .d x1] ρ = putR false [] ρ (C 35 [.fr x0, .fr x1]) := ap2 (F := f_law_ratios) rfl rfl
theorem ao_law_ratios_2 {C : Orc} {ρ : EnvD} {o0 o1 : OD} : apply P C 35 [o0, o1] ρ = if okM [] 0 [o0, o1] = true then bO (args ρ [o0, o1]) fun as => putR (List.any [o0, o1] OD.isB) [] ρ (C 35 as) else none := ap_o (F := f_law_ratios) rfl rfl
theorem ap_law_steps_4 {C : Orc} {ρ : EnvD} {x0 x1 x2 x3 : D} : apply P C 36 [.d x0, .d x1, .d x2, .d x3] ρ = putR false [] ρ (C 36 [.fr x0, .fr x1, .fr x2, .fr x3]) := ap4 (F := f_law_steps) rfl rfl
theorem ap_law_1 {C : Orc} {ρ : EnvD} {x0 : D} : apply P C 37 [.d x0] ρ = putR false [] ρ (C 37 [.fr x0]) := ap1 (F := f_law) rfl rfl
theorem px_Fault : P.exc 0 = true := nr rfl
theorem ps_Fault_Fault : P.sub 0 0 = some true := nr rfl
theorem ps_Fault_Malformed : P.sub 0 1 = some false := nr rfl
theorem ps_Fault_ZeroDivisor : P.sub 0 2 = some false := nr rfl
theorem ps_Fault_Refused : P.sub 0 3 = some false := nr rfl
theorem ps_Fault_Ratio : P.sub 0 4 = some false := nr rfl
theorem ps_Fault_Metric : P.sub 0 5 = some false := nr rfl
theorem px_Malformed : P.exc 1 = true := nr rfl
theorem ps_Malformed_Fault : P.sub 1 0 = some true := nr rfl
theorem ps_Malformed_Malformed : P.sub 1 1 = some true := nr rfl
theorem ps_Malformed_ZeroDivisor : P.sub 1 2 = some false := nr rfl
theorem ps_Malformed_Refused : P.sub 1 3 = some false := nr rfl
theorem ps_Malformed_Ratio : P.sub 1 4 = some false := nr rfl
theorem ps_Malformed_Metric : P.sub 1 5 = some false := nr rfl
theorem px_ZeroDivisor : P.exc 2 = true := nr rfl
theorem ps_ZeroDivisor_Fault : P.sub 2 0 = some true := nr rfl
theorem ps_ZeroDivisor_Malformed : P.sub 2 1 = some false := nr rfl
theorem ps_ZeroDivisor_ZeroDivisor : P.sub 2 2 = some true := nr rfl
theorem ps_ZeroDivisor_Refused : P.sub 2 3 = some false := nr rfl
theorem ps_ZeroDivisor_Ratio : P.sub 2 4 = some false := nr rfl
theorem ps_ZeroDivisor_Metric : P.sub 2 5 = some false := nr rfl
theorem px_Refused : P.exc 3 = true := nr rfl
theorem ps_Refused_Fault : P.sub 3 0 = some true := nr rfl
theorem ps_Refused_Malformed : P.sub 3 1 = some false := nr rfl
theorem ps_Refused_ZeroDivisor : P.sub 3 2 = some false := nr rfl
theorem ps_Refused_Refused : P.sub 3 3 = some true := nr rfl
theorem ps_Refused_Ratio : P.sub 3 4 = some false := nr rfl
theorem ps_Refused_Metric : P.sub 3 5 = some false := nr rfl
theorem px_Ratio : P.exc 4 = false := nr rfl
theorem ps_Ratio_Fault : P.sub 4 0 = some false := nr rfl
theorem ps_Ratio_Malformed : P.sub 4 1 = some false := nr rfl
theorem ps_Ratio_ZeroDivisor : P.sub 4 2 = some false := nr rfl
theorem ps_Ratio_Refused : P.sub 4 3 = some false := nr rfl
theorem ps_Ratio_Ratio : P.sub 4 4 = some true := nr rfl
theorem ps_Ratio_Metric : P.sub 4 5 = some false := nr rfl
theorem pm_Ratio_init : P.meth 4 0 = some 1 := nr rfl
theorem pm_Ratio_eq : P.meth 4 1 = some 2 := nr rfl
theorem pm_Ratio_add : P.meth 4 2 = some 3 := nr rfl
theorem pm_Ratio_sub : P.meth 4 3 = some 4 := nr rfl
theorem pm_Ratio_mul : P.meth 4 4 = some 5 := nr rfl
theorem pm_Ratio_neg : P.meth 4 5 = some 6 := nr rfl
theorem pm_Ratio_is_zero : P.meth 4 7 = some 7 := nr rfl
theorem pm_Ratio_sign : P.meth 4 8 = some 8 := nr rfl
theorem pf_Ratio_n : P.fld 4 0 = true := nr rfl
theorem pf_Ratio_d : P.fld 4 1 = true := nr rfl
theorem px_Metric : P.exc 5 = false := nr rfl
theorem ps_Metric_Fault : P.sub 5 0 = some false := nr rfl
theorem ps_Metric_Malformed : P.sub 5 1 = some false := nr rfl
theorem ps_Metric_ZeroDivisor : P.sub 5 2 = some false := nr rfl
theorem ps_Metric_Refused : P.sub 5 3 = some false := nr rfl
theorem ps_Metric_Ratio : P.sub 5 4 = some false := nr rfl
theorem ps_Metric_Metric : P.sub 5 5 = some true := nr rfl
theorem pm_Metric_init : P.meth 5 0 = some 16 := nr rfl
theorem pm_Metric_eq : P.meth 5 1 = some 17 := nr rfl
theorem pf_Metric_n : P.fld 5 0 = true := nr rfl
theorem pf_Metric_rows : P.fld 5 2 = true := nr rfl
theorem pg_MOST : P.glob 0 = some (.int 8) := nr rfl
local macro_rules | `(tactic| simp_arith [$ls,*]) => `(tactic| simp only [bindR_ok_, bindR_ex_, bindF_ok_, bindF_ex_, bO_some, tF_nx, tF_rt, tF_ex, brB_t, brB_f, brT_t, brT_f, onT_s, outR_rt, outR_nx, outR_ex, ve_non, ve_bl, ve_int, ve_str, ve_var, varK_fr, varK_ow, ve_own, ve_glob, ve_op_, ve_and_, ve_or_, ve_not_, ve_ife_, ve_call_, ve_new_, ve_meth_, methK_ins_, vl_nil, vl_bor_, vl_mut_, vl_cons_, get_z, get_s, vl_cst_, vl_var_, vl_own_, vl_glob_, vl_op_, vl_and_, vl_or_, vl_not_, vl_ife_, vl_call_, vl_new_, vl_meth_, vl_chain_, vl_lc_, vl_pop_, vi_cst_, vi_var_, vi_own_, vi_glob_, vi_op_, vi_and_, vi_or_, vi_not_, vi_ife_, vi_call_, vi_new_, vi_meth_, vi_chain_, vi_lc_, vi_pop_, execs_nil, execs_cons, exec_pass, exec_asg_, exec_par_, exec_fld_, exec_expr_, exec_ret_, exec_retn, exec_ifs_, exec_sub_, exec_app_, exec_aug, augK_int_, exec_for_, for_nil, for_cons, evI_rng__, exec_try, tryK_ex, tryK_nx, tryK_rt, o_add, o_sub, o_mul, o_fdiv, o_mod, o_pow, o_neg, o_eq, o_ne, o_lt, o_le, o_gt, o_ge, o_is, o_isnot, o_isin, o_notin, o_idx, o_tup1, o_tup2, o_tup3, o_tup4, o_tup5, o_tup6, o_tup7, o_tup8, o_tup9, o_tup10, o_tup11, o_tup12, o_lst0, o_lst1, o_lst2, o_lst3, o_lst4, o_lst5, o_lst6, o_lst7, o_lst8, o_lst9, o_lst10, o_lst11, o_lst12, o_attr, o_len, o_abs, o_int, o_tuple, o_list, o_any, o_all, o_sum, o_gcd, o_max, o_min, o_isa, o_sl11, o_sl10, o_sl01, boolA_s, valA_s, lift_ok, lift_ex, add_i, sub_i, mul_i, fdiv_i, mod_i, neg_i, cmp_i, int2_i, abs_i, int_i, int_b, len_l, len_t, len_z, ix_l, ix_t, ix_z, ixL_s, itA_s, attr_i, eqA_s, orc0, orc1, orc2, orc3, k_add, k_sub, k_mul, k_fdiv, k_mod, k_pow, k_neg, k_eq, k_ne, k_lt, k_le, k_gt, k_ge, k_isin, k_notin, k_is, k_isnot, k_idx, k_len, k_abs, k_int, k_str, k_tuple, k_list, k_min, k_max, k_sum, k_any, k_all, k_gcd, k_slice, k_attr, k_isa, k_tup, k_lst, ix_1_0, ix_1_m, ix_2_0, ix_2_1, ix_2_m, ix_3_0, ix_3_1, ix_3_2, ix_3_m, ix_4_0, ix_4_1, ix_4_2, ix_4_3, ix_4_m, ix_5_0, ix_5_1, ix_5_2, ix_5_3, ix_5_4, ix_5_m, ix_6_0, ix_6_1, ix_6_2, ix_6_3, ix_6_4, ix_6_5, ix_6_m, ix_7_0, ix_7_1, ix_7_2, ix_7_3, ix_7_4, ix_7_5, ix_7_6, ix_7_m, ix_9_0, ix_9_1, ix_9_2, ix_9_3, ix_9_4, ix_9_5, ix_9_6, ix_9_7, ix_9_8, ix_9_m, ix_12_0, ix_12_1, ix_12_2, ix_12_3, ix_12_4, ix_12_5, ix_12_6, ix_12_7, ix_12_8, ix_12_9, ix_12_10, ix_12_11, ix_12_m, putR_s, putR_x, putR_ow, putR_oi, ownE_ow, ownE_oi, newR_s, newR_x, xr_str, outM_ow, outM_oi, sl_l, sl_z, isa_nil, isa_cons, add_ins, sub_ins, mul_ins, neg_ins, ans_s, ans_x, views, view, arg, args, EV.fz, truth, OD.isD, OD.isB, OD.isM, EV.own, EV.plain, noLst, noLsts, asgT, List.all_cons, List.all_nil, List.any_cons, List.any_nil, Bool.and_true, Bool.true_and, Bool.and_false, Bool.false_and, Bool.or_false, Bool.or_true, Bool.true_or, Bool.false_or, Bool.not_true, Bool.not_false, Bool.false_eq_true, ↓reduceIte, reduceCtorEq, Nat.reduceAdd, Nat.reduceLT, Nat.reduceLeDiff, Nat.reduceSub, Int.reduceNeg, List.length_cons, List.length_nil, List.set_cons_zero, List.set_cons_succ, List.contains_nil, owns, setE, appE, augE, fldE, Option.map_some, lookF_cons, putFD_nil, putFD_cs, eq_int, eq_bl, eq_tup2, List.contains_cons, Nat.reduceBEq, Nat.reduceEqDiff, beq_self_eq_true, Bool.or_self, ne_eq, not_false_eq_true, decide_true, decide_false, Int.reduceEq, Int.reduceLT, Int.reduceLE, Int.reduceAdd, Int.reduceMul, Int.reduceSub, setAll, List.getElem?_cons_zero, List.getElem?_cons_succ, tq_non_int, tq_non_bool, tq_non_str, tq_non_tuple, tq_non_list, tq_non_c, tq_bl_int, tq_bl_bool, tq_bl_str, tq_bl_tuple, tq_bl_list, tq_bl_c, tq_int_int, tq_int_bool, tq_int_str, tq_int_tuple, tq_int_list, tq_int_c, tq_str_int, tq_str_bool, tq_str_str, tq_str_tuple, tq_str_list, tq_str_c, tq_tup_int, tq_tup_bool, tq_tup_str, tq_tup_tuple, tq_tup_list, tq_tup_c, tq_lst_int, tq_lst_bool, tq_lst_str, tq_lst_tuple, tq_lst_list, tq_lst_c, tq_frz_int, tq_frz_bool, tq_frz_str, tq_frz_tuple, tq_frz_list, tq_frz_c, tq_ins_int, tq_ins_bool, tq_ins_str, tq_ins_tuple, tq_ins_list, tq_ins_c, isD, List.isEmpty_nil, List.isEmpty_cons, Option.map_none, List.map_cons, List.map_nil, ve_lc, lcE_s, lcS_eq, evC_nil, evC_one, wipeD_nil, wipeD_cons, backD_nil, backD_cons, turn_eq, Option.join_some, Option.join_none, it_lst, it_tup, it_frz, tup_l, tup_t, lst_l, lst_t, vl_lt_, vl_ix2_, vl_lrg_, vi_lt_, vi_ix2_, vi_lrg_, ltE_s, ve_lt, owK_s, ltS_eq, cm_cst, cmV_s, cm_var, cm2_s, cm_add, cm_sub, ix2K_s, ve_ix2, exec_st, exec_sts, stsK_2, asgLs_nil, asgLs_cons, asgL_nm, asgL_sub, sub1K_s, asgL_sub2, sub2K_s, popE_1, popE_0, ve_pop, ve_lrg, chK_t, chK_f, ve_chain, vi_zip, zipK_l, zipK_t, varK_tb, ixD_z, vi_bor, itB_ow, itB_fr, itB_ft, ixD_z, lcL_n, lcL_c, lcO_n, lcO_0, lcO_1, lcO_2, lcO_3, ixD_z, cz_0, cz_1, cz_2, cz_3, cz_4, ixD_z, List.cons_append, List.nil_append, ixD_z, o_max1, o_min1, k_max1, k_min1, exec_kill, exec_frz, frzD_nil, frzD_cons, frzV_ow, frzV_tb, frzV_fr, o_tup0, okM_n, okM_dd, okM_bb, pl_bl, pl_i, ixD_z, o_shl, k_shl, exec_ext, ap_is_integer_1, mk_Ratio_1, mk_Ratio_2, ap_Ratio_eq_2, ap_Ratio_add_2, ap_Ratio_sub_2, ap_Ratio_mul_2, ap_Ratio_neg_1, ap_Ratio_is_zero_1, ap_Ratio_sign_1, ap_less_2, ap_is_rational_1, ap_as_ratio_1, ap_greatest_1, ap_taken_rows_1, ap_keeps_triangles_1, ap_is_apart_1, mk_Metric_1, ap_Metric_eq_2, ap_failing_triple_1, ap_is_ultrametric_1, ap_single_linkage_1, ap_law_state_1, ap_law_odd_1, ap_law_honest_1, ap_law_take_1, ap_law_order_of_1, ap_law_shortest_1, ap_law_web_2, ap_law_renamed_2, ap_law_of_tree_1, ap_law_grid_1, ap_law_band_1, ap_law_levels_1, ap_law_rows_1, ap_law_factor_0, ap_law_ratios_2, ao_law_ratios_2, ap_law_steps_4, ap_law_1, px_Fault, ps_Fault_Fault, ps_Fault_Malformed, ps_Fault_ZeroDivisor, ps_Fault_Refused, ps_Fault_Ratio, ps_Fault_Metric, px_Malformed, ps_Malformed_Fault, ps_Malformed_Malformed, ps_Malformed_ZeroDivisor, ps_Malformed_Refused, ps_Malformed_Ratio, ps_Malformed_Metric, px_ZeroDivisor, ps_ZeroDivisor_Fault, ps_ZeroDivisor_Malformed, ps_ZeroDivisor_ZeroDivisor, ps_ZeroDivisor_Refused, ps_ZeroDivisor_Ratio, ps_ZeroDivisor_Metric, px_Refused, ps_Refused_Fault, ps_Refused_Malformed, ps_Refused_ZeroDivisor, ps_Refused_Refused, ps_Refused_Ratio, ps_Refused_Metric, px_Ratio, ps_Ratio_Fault, ps_Ratio_Malformed, ps_Ratio_ZeroDivisor, ps_Ratio_Refused, ps_Ratio_Ratio, ps_Ratio_Metric, pm_Ratio_init, pm_Ratio_eq, pm_Ratio_add, pm_Ratio_sub, pm_Ratio_mul, pm_Ratio_neg, pm_Ratio_is_zero, pm_Ratio_sign, pf_Ratio_n, pf_Ratio_d, px_Metric, ps_Metric_Fault, ps_Metric_Malformed, ps_Metric_ZeroDivisor, ps_Metric_Refused, ps_Metric_Ratio, ps_Metric_Metric, pm_Metric_init, pm_Metric_eq, pf_Metric_n, pf_Metric_rows, pg_MOST, $ls,*])
local macro_rules | `(tactic| simp_arith) => `(tactic| simp only [bindR_ok_, bindR_ex_, bindF_ok_, bindF_ex_, bO_some, tF_nx, tF_rt, tF_ex, brB_t, brB_f, brT_t, brT_f, onT_s, outR_rt, outR_nx, outR_ex, ve_non, ve_bl, ve_int, ve_str, ve_var, varK_fr, varK_ow, ve_own, ve_glob, ve_op_, ve_and_, ve_or_, ve_not_, ve_ife_, ve_call_, ve_new_, ve_meth_, methK_ins_, vl_nil, vl_bor_, vl_mut_, vl_cons_, get_z, get_s, vl_cst_, vl_var_, vl_own_, vl_glob_, vl_op_, vl_and_, vl_or_, vl_not_, vl_ife_, vl_call_, vl_new_, vl_meth_, vl_chain_, vl_lc_, vl_pop_, vi_cst_, vi_var_, vi_own_, vi_glob_, vi_op_, vi_and_, vi_or_, vi_not_, vi_ife_, vi_call_, vi_new_, vi_meth_, vi_chain_, vi_lc_, vi_pop_, execs_nil, execs_cons, exec_pass, exec_asg_, exec_par_, exec_fld_, exec_expr_, exec_ret_, exec_retn, exec_ifs_, exec_sub_, exec_app_, exec_aug, augK_int_, exec_for_, for_nil, for_cons, evI_rng__, exec_try, tryK_ex, tryK_nx, tryK_rt, o_add, o_sub, o_mul, o_fdiv, o_mod, o_pow, o_neg, o_eq, o_ne, o_lt, o_le, o_gt, o_ge, o_is, o_isnot, o_isin, o_notin, o_idx, o_tup1, o_tup2, o_tup3, o_tup4, o_tup5, o_tup6, o_tup7, o_tup8, o_tup9, o_tup10, o_tup11, o_tup12, o_lst0, o_lst1, o_lst2, o_lst3, o_lst4, o_lst5, o_lst6, o_lst7, o_lst8, o_lst9, o_lst10, o_lst11, o_lst12, o_attr, o_len, o_abs, o_int, o_tuple, o_list, o_any, o_all, o_sum, o_gcd, o_max, o_min, o_isa, o_sl11, o_sl10, o_sl01, boolA_s, valA_s, lift_ok, lift_ex, add_i, sub_i, mul_i, fdiv_i, mod_i, neg_i, cmp_i, int2_i, abs_i, int_i, int_b, len_l, len_t, len_z, ix_l, ix_t, ix_z, ixL_s, itA_s, attr_i, eqA_s, orc0, orc1, orc2, orc3, k_add, k_sub, k_mul, k_fdiv, k_mod, k_pow, k_neg, k_eq, k_ne, k_lt, k_le, k_gt, k_ge, k_isin, k_notin, k_is, k_isnot, k_idx, k_len, k_abs, k_int, k_str, k_tuple, k_list, k_min, k_max, k_sum, k_any, k_all, k_gcd, k_slice, k_attr, k_isa, k_tup, k_lst, ix_1_0, ix_1_m, ix_2_0, ix_2_1, ix_2_m, ix_3_0, ix_3_1, ix_3_2, ix_3_m, ix_4_0, ix_4_1, ix_4_2, ix_4_3, ix_4_m, ix_5_0, ix_5_1, ix_5_2, ix_5_3, ix_5_4, ix_5_m, ix_6_0, ix_6_1, ix_6_2, ix_6_3, ix_6_4, ix_6_5, ix_6_m, ix_7_0, ix_7_1, ix_7_2, ix_7_3, ix_7_4, ix_7_5, ix_7_6, ix_7_m, ix_9_0, ix_9_1, ix_9_2, ix_9_3, ix_9_4, ix_9_5, ix_9_6, ix_9_7, ix_9_8, ix_9_m, ix_12_0, ix_12_1, ix_12_2, ix_12_3, ix_12_4, ix_12_5, ix_12_6, ix_12_7, ix_12_8, ix_12_9, ix_12_10, ix_12_11, ix_12_m, putR_s, putR_x, putR_ow, putR_oi, ownE_ow, ownE_oi, newR_s, newR_x, xr_str, outM_ow, outM_oi, sl_l, sl_z, isa_nil, isa_cons, add_ins, sub_ins, mul_ins, neg_ins, ans_s, ans_x, views, view, arg, args, EV.fz, truth, OD.isD, OD.isB, OD.isM, EV.own, EV.plain, noLst, noLsts, asgT, List.all_cons, List.all_nil, List.any_cons, List.any_nil, Bool.and_true, Bool.true_and, Bool.and_false, Bool.false_and, Bool.or_false, Bool.or_true, Bool.true_or, Bool.false_or, Bool.not_true, Bool.not_false, Bool.false_eq_true, ↓reduceIte, reduceCtorEq, Nat.reduceAdd, Nat.reduceLT, Nat.reduceLeDiff, Nat.reduceSub, Int.reduceNeg, List.length_cons, List.length_nil, List.set_cons_zero, List.set_cons_succ, List.contains_nil, owns, setE, appE, augE, fldE, Option.map_some, lookF_cons, putFD_nil, putFD_cs, eq_int, eq_bl, eq_tup2, List.contains_cons, Nat.reduceBEq, Nat.reduceEqDiff, beq_self_eq_true, Bool.or_self, ne_eq, not_false_eq_true, decide_true, decide_false, Int.reduceEq, Int.reduceLT, Int.reduceLE, Int.reduceAdd, Int.reduceMul, Int.reduceSub, setAll, List.getElem?_cons_zero, List.getElem?_cons_succ, tq_non_int, tq_non_bool, tq_non_str, tq_non_tuple, tq_non_list, tq_non_c, tq_bl_int, tq_bl_bool, tq_bl_str, tq_bl_tuple, tq_bl_list, tq_bl_c, tq_int_int, tq_int_bool, tq_int_str, tq_int_tuple, tq_int_list, tq_int_c, tq_str_int, tq_str_bool, tq_str_str, tq_str_tuple, tq_str_list, tq_str_c, tq_tup_int, tq_tup_bool, tq_tup_str, tq_tup_tuple, tq_tup_list, tq_tup_c, tq_lst_int, tq_lst_bool, tq_lst_str, tq_lst_tuple, tq_lst_list, tq_lst_c, tq_frz_int, tq_frz_bool, tq_frz_str, tq_frz_tuple, tq_frz_list, tq_frz_c, tq_ins_int, tq_ins_bool, tq_ins_str, tq_ins_tuple, tq_ins_list, tq_ins_c, isD, List.isEmpty_nil, List.isEmpty_cons, Option.map_none, List.map_cons, List.map_nil, ve_lc, lcE_s, lcS_eq, evC_nil, evC_one, wipeD_nil, wipeD_cons, backD_nil, backD_cons, turn_eq, Option.join_some, Option.join_none, it_lst, it_tup, it_frz, tup_l, tup_t, lst_l, lst_t, vl_lt_, vl_ix2_, vl_lrg_, vi_lt_, vi_ix2_, vi_lrg_, ltE_s, ve_lt, owK_s, ltS_eq, cm_cst, cmV_s, cm_var, cm2_s, cm_add, cm_sub, ix2K_s, ve_ix2, exec_st, exec_sts, stsK_2, asgLs_nil, asgLs_cons, asgL_nm, asgL_sub, sub1K_s, asgL_sub2, sub2K_s, popE_1, popE_0, ve_pop, ve_lrg, chK_t, chK_f, ve_chain, vi_zip, zipK_l, zipK_t, varK_tb, ixD_z, vi_bor, itB_ow, itB_fr, itB_ft, ixD_z, lcL_n, lcL_c, lcO_n, lcO_0, lcO_1, lcO_2, lcO_3, ixD_z, cz_0, cz_1, cz_2, cz_3, cz_4, ixD_z, List.cons_append, List.nil_append, ixD_z, o_max1, o_min1, k_max1, k_min1, exec_kill, exec_frz, frzD_nil, frzD_cons, frzV_ow, frzV_tb, frzV_fr, o_tup0, okM_n, okM_dd, okM_bb, pl_bl, pl_i, ixD_z, o_shl, k_shl, exec_ext, ap_is_integer_1, mk_Ratio_1, mk_Ratio_2, ap_Ratio_eq_2, ap_Ratio_add_2, ap_Ratio_sub_2, ap_Ratio_mul_2, ap_Ratio_neg_1, ap_Ratio_is_zero_1, ap_Ratio_sign_1, ap_less_2, ap_is_rational_1, ap_as_ratio_1, ap_greatest_1, ap_taken_rows_1, ap_keeps_triangles_1, ap_is_apart_1, mk_Metric_1, ap_Metric_eq_2, ap_failing_triple_1, ap_is_ultrametric_1, ap_single_linkage_1, ap_law_state_1, ap_law_odd_1, ap_law_honest_1, ap_law_take_1, ap_law_order_of_1, ap_law_shortest_1, ap_law_web_2, ap_law_renamed_2, ap_law_of_tree_1, ap_law_grid_1, ap_law_band_1, ap_law_levels_1, ap_law_rows_1, ap_law_factor_0, ap_law_ratios_2, ao_law_ratios_2, ap_law_steps_4, ap_law_1, px_Fault, ps_Fault_Fault, ps_Fault_Malformed, ps_Fault_ZeroDivisor, ps_Fault_Refused, ps_Fault_Ratio, ps_Fault_Metric, px_Malformed, ps_Malformed_Fault, ps_Malformed_Malformed, ps_Malformed_ZeroDivisor, ps_Malformed_Refused, ps_Malformed_Ratio, ps_Malformed_Metric, px_ZeroDivisor, ps_ZeroDivisor_Fault, ps_ZeroDivisor_Malformed, ps_ZeroDivisor_ZeroDivisor, ps_ZeroDivisor_Refused, ps_ZeroDivisor_Ratio, ps_ZeroDivisor_Metric, px_Refused, ps_Refused_Fault, ps_Refused_Malformed, ps_Refused_ZeroDivisor, ps_Refused_Refused, ps_Refused_Ratio, ps_Refused_Metric, px_Ratio, ps_Ratio_Fault, ps_Ratio_Malformed, ps_Ratio_ZeroDivisor, ps_Ratio_Refused, ps_Ratio_Ratio, ps_Ratio_Metric, pm_Ratio_init, pm_Ratio_eq, pm_Ratio_add, pm_Ratio_sub, pm_Ratio_mul, pm_Ratio_neg, pm_Ratio_is_zero, pm_Ratio_sign, pf_Ratio_n, pf_Ratio_d, px_Metric, ps_Metric_Fault, ps_Metric_Malformed, ps_Metric_ZeroDivisor, ps_Metric_Refused, ps_Metric_Ratio, ps_Metric_Metric, pm_Metric_init, pm_Metric_eq, pf_Metric_n, pf_Metric_rows, pg_MOST])
local macro_rules | `(tactic| simp! [$ls,*]) => `(tactic| simp (disch := first | assumption | decide | omega | decreasing_trivial | fail) only [bindR_ok_, bindR_ex_, bindF_ok_, bindF_ex_, bO_some, tF_nx, tF_rt, tF_ex, brB_t, brB_f, brT_t, brT_f, onT_s, outR_rt, outR_nx, outR_ex, ve_non, ve_bl, ve_int, ve_str, ve_var, varK_fr, varK_ow, ve_own, ve_glob, ve_op_, ve_and_, ve_or_, ve_not_, ve_ife_, ve_call_, ve_new_, ve_meth_, methK_ins_, vl_nil, vl_bor_, vl_mut_, vl_cons_, get_z, get_s, vl_cst_, vl_var_, vl_own_, vl_glob_, vl_op_, vl_and_, vl_or_, vl_not_, vl_ife_, vl_call_, vl_new_, vl_meth_, vl_chain_, vl_lc_, vl_pop_, vi_cst_, vi_var_, vi_own_, vi_glob_, vi_op_, vi_and_, vi_or_, vi_not_, vi_ife_, vi_call_, vi_new_, vi_meth_, vi_chain_, vi_lc_, vi_pop_, execs_nil, execs_cons, exec_pass, exec_asg_, exec_par_, exec_fld_, exec_expr_, exec_ret_, exec_retn, exec_ifs_, exec_sub_, exec_app_, exec_aug, augK_int_, exec_for_, for_nil, for_cons, evI_rng__, exec_try, tryK_ex, tryK_nx, tryK_rt, o_add, o_sub, o_mul, o_fdiv, o_mod, o_pow, o_neg, o_eq, o_ne, o_lt, o_le, o_gt, o_ge, o_is, o_isnot, o_isin, o_notin, o_idx, o_tup1, o_tup2, o_tup3, o_tup4, o_tup5, o_tup6, o_tup7, o_tup8, o_tup9, o_tup10, o_tup11, o_tup12, o_lst0, o_lst1, o_lst2, o_lst3, o_lst4, o_lst5, o_lst6, o_lst7, o_lst8, o_lst9, o_lst10, o_lst11, o_lst12, o_attr, o_len, o_abs, o_int, o_tuple, o_list, o_any, o_all, o_sum, o_gcd, o_max, o_min, o_isa, o_sl11, o_sl10, o_sl01, boolA_s, valA_s, lift_ok, lift_ex, add_i, sub_i, mul_i, fdiv_i, mod_i, neg_i, cmp_i, int2_i, abs_i, int_i, int_b, len_l, len_t, len_z, ix_l, ix_t, ix_z, ixL_s, itA_s, attr_i, eqA_s, orc0, orc1, orc2, orc3, k_add, k_sub, k_mul, k_fdiv, k_mod, k_pow, k_neg, k_eq, k_ne, k_lt, k_le, k_gt, k_ge, k_isin, k_notin, k_is, k_isnot, k_idx, k_len, k_abs, k_int, k_str, k_tuple, k_list, k_min, k_max, k_sum, k_any, k_all, k_gcd, k_slice, k_attr, k_isa, k_tup, k_lst, ix_1_0, ix_1_m, ix_2_0, ix_2_1, ix_2_m, ix_3_0, ix_3_1, ix_3_2, ix_3_m, ix_4_0, ix_4_1, ix_4_2, ix_4_3, ix_4_m, ix_5_0, ix_5_1, ix_5_2, ix_5_3, ix_5_4, ix_5_m, ix_6_0, ix_6_1, ix_6_2, ix_6_3, ix_6_4, ix_6_5, ix_6_m, ix_7_0, ix_7_1, ix_7_2, ix_7_3, ix_7_4, ix_7_5, ix_7_6, ix_7_m, ix_9_0, ix_9_1, ix_9_2, ix_9_3, ix_9_4, ix_9_5, ix_9_6, ix_9_7, ix_9_8, ix_9_m, ix_12_0, ix_12_1, ix_12_2, ix_12_3, ix_12_4, ix_12_5, ix_12_6, ix_12_7, ix_12_8, ix_12_9, ix_12_10, ix_12_11, ix_12_m, putR_s, putR_x, putR_ow, putR_oi, ownE_ow, ownE_oi, newR_s, newR_x, xr_str, outM_ow, outM_oi, sl_l, sl_z, isa_nil, isa_cons, add_ins, sub_ins, mul_ins, neg_ins, ans_s, ans_x, views, view, arg, args, EV.fz, truth, OD.isD, OD.isB, OD.isM, EV.own, EV.plain, noLst, noLsts, asgT, List.all_cons, List.all_nil, List.any_cons, List.any_nil, Bool.and_true, Bool.true_and, Bool.and_false, Bool.false_and, Bool.or_false, Bool.or_true, Bool.true_or, Bool.false_or, Bool.not_true, Bool.not_false, Bool.false_eq_true, ↓reduceIte, reduceCtorEq, Nat.reduceAdd, Nat.reduceLT, Nat.reduceLeDiff, Nat.reduceSub, Int.reduceNeg, List.length_cons, List.length_nil, List.set_cons_zero, List.set_cons_succ, List.contains_nil, owns, setE, appE, augE, fldE, Option.map_some, lookF_cons, putFD_nil, putFD_cs, eq_int, eq_bl, eq_tup2, List.contains_cons, Nat.reduceBEq, Nat.reduceEqDiff, beq_self_eq_true, Bool.or_self, ne_eq, not_false_eq_true, decide_true, decide_false, Int.reduceEq, Int.reduceLT, Int.reduceLE, Int.reduceAdd, Int.reduceMul, Int.reduceSub, setAll, List.getElem?_cons_zero, List.getElem?_cons_succ, tq_non_int, tq_non_bool, tq_non_str, tq_non_tuple, tq_non_list, tq_non_c, tq_bl_int, tq_bl_bool, tq_bl_str, tq_bl_tuple, tq_bl_list, tq_bl_c, tq_int_int, tq_int_bool, tq_int_str, tq_int_tuple, tq_int_list, tq_int_c, tq_str_int, tq_str_bool, tq_str_str, tq_str_tuple, tq_str_list, tq_str_c, tq_tup_int, tq_tup_bool, tq_tup_str, tq_tup_tuple, tq_tup_list, tq_tup_c, tq_lst_int, tq_lst_bool, tq_lst_str, tq_lst_tuple, tq_lst_list, tq_lst_c, tq_frz_int, tq_frz_bool, tq_frz_str, tq_frz_tuple, tq_frz_list, tq_frz_c, tq_ins_int, tq_ins_bool, tq_ins_str, tq_ins_tuple, tq_ins_list, tq_ins_c, isD, List.isEmpty_nil, List.isEmpty_cons, Option.map_none, List.map_cons, List.map_nil, ve_lc, lcE_s, lcS_eq, evC_nil, evC_one, wipeD_nil, wipeD_cons, backD_nil, backD_cons, turn_eq, Option.join_some, Option.join_none, it_lst, it_tup, it_frz, tup_l, tup_t, lst_l, lst_t, vl_lt_, vl_ix2_, vl_lrg_, vi_lt_, vi_ix2_, vi_lrg_, ltE_s, ve_lt, owK_s, ltS_eq, cm_cst, cmV_s, cm_var, cm2_s, cm_add, cm_sub, ix2K_s, ve_ix2, exec_st, exec_sts, stsK_2, asgLs_nil, asgLs_cons, asgL_nm, asgL_sub, sub1K_s, asgL_sub2, sub2K_s, popE_1, popE_0, ve_pop, ve_lrg, chK_t, chK_f, ve_chain, vi_zip, zipK_l, zipK_t, varK_tb, ixD_z, vi_bor, itB_ow, itB_fr, itB_ft, ixD_z, lcL_n, lcL_c, lcO_n, lcO_0, lcO_1, lcO_2, lcO_3, ixD_z, cz_0, cz_1, cz_2, cz_3, cz_4, ixD_z, List.cons_append, List.nil_append, ixD_z, o_max1, o_min1, k_max1, k_min1, exec_kill, exec_frz, frzD_nil, frzD_cons, frzV_ow, frzV_tb, frzV_fr, o_tup0, okM_n, okM_dd, okM_bb, pl_bl, pl_i, ixD_z, o_shl, k_shl, exec_ext, rngK_c, rngK_cc, rngK_sc, rngK_s, mulOk_l, mulOk_r, divOk_s, dlt_t, dlt_f, dle_t, dle_f, deq_t, deq_f, len_rg_l, List.length_map, List.length_range, Int.natCast_inj, F.rt.injEq, F.nx.injEq, Option.some.injEq, true_and, exists_eq', exists_eq, List.range_zero, List.foldl_nil, List.filter_nil, List.flatMap_nil, ixD_nat, rg_get, mapN_get, mapI_get, mapQ_get, add_l, add_t, in_Nt, in_Nl, all_m, any_m, sum_m, putR_p, popK_rg, fmod_two, shl_i, mul_t, mul_l, extK_s, rep1, pow_2, ap_is_integer_1, mk_Ratio_1, mk_Ratio_2, ap_Ratio_eq_2, ap_Ratio_add_2, ap_Ratio_sub_2, ap_Ratio_mul_2, ap_Ratio_neg_1, ap_Ratio_is_zero_1, ap_Ratio_sign_1, ap_less_2, ap_is_rational_1, ap_as_ratio_1, ap_greatest_1, ap_taken_rows_1, ap_keeps_triangles_1, ap_is_apart_1, mk_Metric_1, ap_Metric_eq_2, ap_failing_triple_1, ap_is_ultrametric_1, ap_single_linkage_1, ap_law_state_1, ap_law_odd_1, ap_law_honest_1, ap_law_take_1, ap_law_order_of_1, ap_law_shortest_1, ap_law_web_2, ap_law_renamed_2, ap_law_of_tree_1, ap_law_grid_1, ap_law_band_1, ap_law_levels_1, ap_law_rows_1, ap_law_factor_0, ap_law_ratios_2, ao_law_ratios_2, ap_law_steps_4, ap_law_1, px_Fault, ps_Fault_Fault, ps_Fault_Malformed, ps_Fault_ZeroDivisor, ps_Fault_Refused, ps_Fault_Ratio, ps_Fault_Metric, px_Malformed, ps_Malformed_Fault, ps_Malformed_Malformed, ps_Malformed_ZeroDivisor, ps_Malformed_Refused, ps_Malformed_Ratio, ps_Malformed_Metric, px_ZeroDivisor, ps_ZeroDivisor_Fault, ps_ZeroDivisor_Malformed, ps_ZeroDivisor_ZeroDivisor, ps_ZeroDivisor_Refused, ps_ZeroDivisor_Ratio, ps_ZeroDivisor_Metric, px_Refused, ps_Refused_Fault, ps_Refused_Malformed, ps_Refused_ZeroDivisor, ps_Refused_Refused, ps_Refused_Ratio, ps_Refused_Metric, px_Ratio, ps_Ratio_Fault, ps_Ratio_Malformed, ps_Ratio_ZeroDivisor, ps_Ratio_Refused, ps_Ratio_Ratio, ps_Ratio_Metric, pm_Ratio_init, pm_Ratio_eq, pm_Ratio_add, pm_Ratio_sub, pm_Ratio_mul, pm_Ratio_neg, pm_Ratio_is_zero, pm_Ratio_sign, pf_Ratio_n, pf_Ratio_d, px_Metric, ps_Metric_Fault, ps_Metric_Malformed, ps_Metric_ZeroDivisor, ps_Metric_Refused, ps_Metric_Ratio, ps_Metric_Metric, pm_Metric_init, pm_Metric_eq, pf_Metric_n, pf_Metric_rows, pg_MOST, $ls,*])
local macro_rules | `(tactic| simp!) => `(tactic| simp (disch := first | assumption | decide | omega | decreasing_trivial | fail) only [bindR_ok_, bindR_ex_, bindF_ok_, bindF_ex_, bO_some, tF_nx, tF_rt, tF_ex, brB_t, brB_f, brT_t, brT_f, onT_s, outR_rt, outR_nx, outR_ex, ve_non, ve_bl, ve_int, ve_str, ve_var, varK_fr, varK_ow, ve_own, ve_glob, ve_op_, ve_and_, ve_or_, ve_not_, ve_ife_, ve_call_, ve_new_, ve_meth_, methK_ins_, vl_nil, vl_bor_, vl_mut_, vl_cons_, get_z, get_s, vl_cst_, vl_var_, vl_own_, vl_glob_, vl_op_, vl_and_, vl_or_, vl_not_, vl_ife_, vl_call_, vl_new_, vl_meth_, vl_chain_, vl_lc_, vl_pop_, vi_cst_, vi_var_, vi_own_, vi_glob_, vi_op_, vi_and_, vi_or_, vi_not_, vi_ife_, vi_call_, vi_new_, vi_meth_, vi_chain_, vi_lc_, vi_pop_, execs_nil, execs_cons, exec_pass, exec_asg_, exec_par_, exec_fld_, exec_expr_, exec_ret_, exec_retn, exec_ifs_, exec_sub_, exec_app_, exec_aug, augK_int_, exec_for_, for_nil, for_cons, evI_rng__, exec_try, tryK_ex, tryK_nx, tryK_rt, o_add, o_sub, o_mul, o_fdiv, o_mod, o_pow, o_neg, o_eq, o_ne, o_lt, o_le, o_gt, o_ge, o_is, o_isnot, o_isin, o_notin, o_idx, o_tup1, o_tup2, o_tup3, o_tup4, o_tup5, o_tup6, o_tup7, o_tup8, o_tup9, o_tup10, o_tup11, o_tup12, o_lst0, o_lst1, o_lst2, o_lst3, o_lst4, o_lst5, o_lst6, o_lst7, o_lst8, o_lst9, o_lst10, o_lst11, o_lst12, o_attr, o_len, o_abs, o_int, o_tuple, o_list, o_any, o_all, o_sum, o_gcd, o_max, o_min, o_isa, o_sl11, o_sl10, o_sl01, boolA_s, valA_s, lift_ok, lift_ex, add_i, sub_i, mul_i, fdiv_i, mod_i, neg_i, cmp_i, int2_i, abs_i, int_i, int_b, len_l, len_t, len_z, ix_l, ix_t, ix_z, ixL_s, itA_s, attr_i, eqA_s, orc0, orc1, orc2, orc3, k_add, k_sub, k_mul, k_fdiv, k_mod, k_pow, k_neg, k_eq, k_ne, k_lt, k_le, k_gt, k_ge, k_isin, k_notin, k_is, k_isnot, k_idx, k_len, k_abs, k_int, k_str, k_tuple, k_list, k_min, k_max, k_sum, k_any, k_all, k_gcd, k_slice, k_attr, k_isa, k_tup, k_lst, ix_1_0, ix_1_m, ix_2_0, ix_2_1, ix_2_m, ix_3_0, ix_3_1, ix_3_2, ix_3_m, ix_4_0, ix_4_1, ix_4_2, ix_4_3, ix_4_m, ix_5_0, ix_5_1, ix_5_2, ix_5_3, ix_5_4, ix_5_m, ix_6_0, ix_6_1, ix_6_2, ix_6_3, ix_6_4, ix_6_5, ix_6_m, ix_7_0, ix_7_1, ix_7_2, ix_7_3, ix_7_4, ix_7_5, ix_7_6, ix_7_m, ix_9_0, ix_9_1, ix_9_2, ix_9_3, ix_9_4, ix_9_5, ix_9_6, ix_9_7, ix_9_8, ix_9_m, ix_12_0, ix_12_1, ix_12_2, ix_12_3, ix_12_4, ix_12_5, ix_12_6, ix_12_7, ix_12_8, ix_12_9, ix_12_10, ix_12_11, ix_12_m, putR_s, putR_x, putR_ow, putR_oi, ownE_ow, ownE_oi, newR_s, newR_x, xr_str, outM_ow, outM_oi, sl_l, sl_z, isa_nil, isa_cons, add_ins, sub_ins, mul_ins, neg_ins, ans_s, ans_x, views, view, arg, args, EV.fz, truth, OD.isD, OD.isB, OD.isM, EV.own, EV.plain, noLst, noLsts, asgT, List.all_cons, List.all_nil, List.any_cons, List.any_nil, Bool.and_true, Bool.true_and, Bool.and_false, Bool.false_and, Bool.or_false, Bool.or_true, Bool.true_or, Bool.false_or, Bool.not_true, Bool.not_false, Bool.false_eq_true, ↓reduceIte, reduceCtorEq, Nat.reduceAdd, Nat.reduceLT, Nat.reduceLeDiff, Nat.reduceSub, Int.reduceNeg, List.length_cons, List.length_nil, List.set_cons_zero, List.set_cons_succ, List.contains_nil, owns, setE, appE, augE, fldE, Option.map_some, lookF_cons, putFD_nil, putFD_cs, eq_int, eq_bl, eq_tup2, List.contains_cons, Nat.reduceBEq, Nat.reduceEqDiff, beq_self_eq_true, Bool.or_self, ne_eq, not_false_eq_true, decide_true, decide_false, Int.reduceEq, Int.reduceLT, Int.reduceLE, Int.reduceAdd, Int.reduceMul, Int.reduceSub, setAll, List.getElem?_cons_zero, List.getElem?_cons_succ, tq_non_int, tq_non_bool, tq_non_str, tq_non_tuple, tq_non_list, tq_non_c, tq_bl_int, tq_bl_bool, tq_bl_str, tq_bl_tuple, tq_bl_list, tq_bl_c, tq_int_int, tq_int_bool, tq_int_str, tq_int_tuple, tq_int_list, tq_int_c, tq_str_int, tq_str_bool, tq_str_str, tq_str_tuple, tq_str_list, tq_str_c, tq_tup_int, tq_tup_bool, tq_tup_str, tq_tup_tuple, tq_tup_list, tq_tup_c, tq_lst_int, tq_lst_bool, tq_lst_str, tq_lst_tuple, tq_lst_list, tq_lst_c, tq_frz_int, tq_frz_bool, tq_frz_str, tq_frz_tuple, tq_frz_list, tq_frz_c, tq_ins_int, tq_ins_bool, tq_ins_str, tq_ins_tuple, tq_ins_list, tq_ins_c, isD, List.isEmpty_nil, List.isEmpty_cons, Option.map_none, List.map_cons, List.map_nil, ve_lc, lcE_s, lcS_eq, evC_nil, evC_one, wipeD_nil, wipeD_cons, backD_nil, backD_cons, turn_eq, Option.join_some, Option.join_none, it_lst, it_tup, it_frz, tup_l, tup_t, lst_l, lst_t, vl_lt_, vl_ix2_, vl_lrg_, vi_lt_, vi_ix2_, vi_lrg_, ltE_s, ve_lt, owK_s, ltS_eq, cm_cst, cmV_s, cm_var, cm2_s, cm_add, cm_sub, ix2K_s, ve_ix2, exec_st, exec_sts, stsK_2, asgLs_nil, asgLs_cons, asgL_nm, asgL_sub, sub1K_s, asgL_sub2, sub2K_s, popE_1, popE_0, ve_pop, ve_lrg, chK_t, chK_f, ve_chain, vi_zip, zipK_l, zipK_t, varK_tb, ixD_z, vi_bor, itB_ow, itB_fr, itB_ft, ixD_z, lcL_n, lcL_c, lcO_n, lcO_0, lcO_1, lcO_2, lcO_3, ixD_z, cz_0, cz_1, cz_2, cz_3, cz_4, ixD_z, List.cons_append, List.nil_append, ixD_z, o_max1, o_min1, k_max1, k_min1, exec_kill, exec_frz, frzD_nil, frzD_cons, frzV_ow, frzV_tb, frzV_fr, o_tup0, okM_n, okM_dd, okM_bb, pl_bl, pl_i, ixD_z, o_shl, k_shl, exec_ext, rngK_c, rngK_cc, rngK_sc, rngK_s, mulOk_l, mulOk_r, divOk_s, dlt_t, dlt_f, dle_t, dle_f, deq_t, deq_f, len_rg_l, List.length_map, List.length_range, Int.natCast_inj, F.rt.injEq, F.nx.injEq, Option.some.injEq, true_and, exists_eq', exists_eq, List.range_zero, List.foldl_nil, List.filter_nil, List.flatMap_nil, ixD_nat, rg_get, mapN_get, mapI_get, mapQ_get, add_l, add_t, in_Nt, in_Nl, all_m, any_m, sum_m, putR_p, popK_rg, fmod_two, shl_i, mul_t, mul_l, extK_s, rep1, pow_2, ap_is_integer_1, mk_Ratio_1, mk_Ratio_2, ap_Ratio_eq_2, ap_Ratio_add_2, ap_Ratio_sub_2, ap_Ratio_mul_2, ap_Ratio_neg_1, ap_Ratio_is_zero_1, ap_Ratio_sign_1, ap_less_2, ap_is_rational_1, ap_as_ratio_1, ap_greatest_1, ap_taken_rows_1, ap_keeps_triangles_1, ap_is_apart_1, mk_Metric_1, ap_Metric_eq_2, ap_failing_triple_1, ap_is_ultrametric_1, ap_single_linkage_1, ap_law_state_1, ap_law_odd_1, ap_law_honest_1, ap_law_take_1, ap_law_order_of_1, ap_law_shortest_1, ap_law_web_2, ap_law_renamed_2, ap_law_of_tree_1, ap_law_grid_1, ap_law_band_1, ap_law_levels_1, ap_law_rows_1, ap_law_factor_0, ap_law_ratios_2, ao_law_ratios_2, ap_law_steps_4, ap_law_1, px_Fault, ps_Fault_Fault, ps_Fault_Malformed, ps_Fault_ZeroDivisor, ps_Fault_Refused, ps_Fault_Ratio, ps_Fault_Metric, px_Malformed, ps_Malformed_Fault, ps_Malformed_Malformed, ps_Malformed_ZeroDivisor, ps_Malformed_Refused, ps_Malformed_Ratio, ps_Malformed_Metric, px_ZeroDivisor, ps_ZeroDivisor_Fault, ps_ZeroDivisor_Malformed, ps_ZeroDivisor_ZeroDivisor, ps_ZeroDivisor_Refused, ps_ZeroDivisor_Ratio, ps_ZeroDivisor_Metric, px_Refused, ps_Refused_Fault, ps_Refused_Malformed, ps_Refused_ZeroDivisor, ps_Refused_Refused, ps_Refused_Ratio, ps_Refused_Metric, px_Ratio, ps_Ratio_Fault, ps_Ratio_Malformed, ps_Ratio_ZeroDivisor, ps_Ratio_Refused, ps_Ratio_Ratio, ps_Ratio_Metric, pm_Ratio_init, pm_Ratio_eq, pm_Ratio_add, pm_Ratio_sub, pm_Ratio_mul, pm_Ratio_neg, pm_Ratio_is_zero, pm_Ratio_sign, pf_Ratio_n, pf_Ratio_d, px_Metric, ps_Metric_Fault, ps_Metric_Malformed, ps_Metric_ZeroDivisor, ps_Metric_Refused, ps_Metric_Ratio, ps_Metric_Metric, pm_Metric_init, pm_Metric_eq, pf_Metric_n, pf_Metric_rows, pg_MOST])
/-! ### numbers -/
abbrev Rt (q : Rat) : D := .ins 4 [0, 1] [.int q.num, .int q.den]
abbrev Tp (q : Rat) : D := .tup [.int q.num, .int q.den]
variable {k m h : Nat} {p q : Rat}
theorem r_init {n d : Int} (hd0 : d ≠ 0) (hd : Sz m d) (hm : m ≤ 9000) : Ev.run P (k + 1) 1 [.oi 4 [] [], .fr (.int n), .fr (.int d)] = some (.ret (.fr .non) [.oi 4 [0, 1] [.int (Rat.divInt n d).num, .int (Rat.divInt n d).den]]) := by
  rw [run_on (F := f_Ratio_init) rfl rfl]
  show outR [0] (execs P _ b_Ratio_init [0] [some _, some (.fr _), some (.fr _), none]) = _
  unfold b_Ratio_init
  rw [← mk_num hd0, ← mk_den hd0]
  have e0 : decide (d = 0) = false := decide_eq_false hd0
  have g1 := gcd_div (n := n) hd0 hd hm
  by_cases hl : d < 0
  · have l1 : decide (d < 0) = true := decide_eq_true hl
    rw [if_pos hl, if_pos hl]
    simp_arith [e0, l1, g1, gcdI_neg]
  · have l1 : decide (d < 0) = false := decide_eq_false hl
    rw [if_neg hl, if_neg hl]
    simp_arith [e0, l1, g1]
theorem r_init1 {n : Int} : Ev.run P (k + 1) 1 [.oi 4 [] [], .fr (.int n)] = some (.ret (.fr .non) [.oi 4 [0, 1] [.int n, .int 1]]) := by
  have h := r_init (k := k) (n := n) (d := 1) (m := 1) (by decide) (by unfold Sz; decide) (by decide)
  rw [q_int] at h
  refine Eq.trans ?_ h
  rw [run_on (F := f_Ratio_init) rfl rfl, run_on (F := f_Ratio_init) rfl rfl]
  rfl
theorem r_init0 {n : Int} : Ev.run P (k + 1) 1 [.oi 4 [] [], .fr (.int n), .fr (.int 0)] = some (CR.exc (.mk 2 (.str "zero"))) := by
  rw [run_on (F := f_Ratio_init) rfl rfl]
  show outR [0] (execs P _ b_Ratio_init [0] [some _, some (.fr _), some (.fr _), none]) = _
  unfold b_Ratio_init
  have e0 : decide ((0 : Int) = 0) = true := rfl
  simp_arith [e0]
theorem r_isint {i : Int} : Ev.run P (k+1) 0 [.fr (.int i)] = some (.ret (.fr (.bl true)) []) := by
  rw [run_on (F := f_is_integer) rfl rfl]
  show outR [] (execs P _ b_is_integer [] [some (.fr _)]) = _
  unfold b_is_integer
  simp_arith []
theorem r_isno {u : D} (h1 : tyD P u .int = some true → tyD P u .bool = some true) (h2 : ∃ b, tyD P u .int = some b) : Ev.run P (k + 1) 0 [.fr u] = some (.ret (.fr (.bl false)) []) := by
  rw [run_on (F := f_is_integer) rfl rfl]
  show outR [] (execs P _ b_is_integer [] [some (.fr _)]) = _
  unfold b_is_integer
  obtain ⟨b, h2⟩ := h2
  cases b with
  | false => simp_arith [h2]
  | true =>
    have h1 := h1 h2
    simp_arith [h2, h1]
theorem r_add (A : Sq m p) (B : Sq h q) (l : m + h ≤ 9000) : Ev.run P (k + 2) 3 [.fr (Rt p), .fr (Rt q)] = some (.ret (.fr (Rt (p + q))) []) := by
  rw [run_on (F := f_Ratio_add) rfl rfl]
  show outR [] (execs P _ b_Ratio_add [] [some (.fr _), some (.fr _)]) = _
  unfold b_Ratio_add
  have i := r_init (k := k) (n := p.num * q.den + q.num * p.den) mulNe (A.d.mul B.d) l
  rw [q_add] at i
  obtain ⟨m1, m2, m3, m4, m5⟩ := A.mOk B l
  simp_arith [m1, m2, m3, m4, m5, i]
theorem du_add {C : Orc} : dunder P C mAdd (Rt p) [Rt q] = ans (C 3 [.fr (Rt p), .fr (Rt q)]) := dunder_on rfl rfl
theorem r_sub (A : Sq m p) (B : Sq h q) (l : m + h ≤ 9000) : Ev.run P (k + 2) 4 [.fr (Rt p), .fr (Rt q)] = some (.ret (.fr (Rt (p - q))) []) := by
  rw [run_on (F := f_Ratio_sub) rfl rfl]
  show outR [] (execs P _ b_Ratio_sub [] [some (.fr _), some (.fr _)]) = _
  unfold b_Ratio_sub
  have i := r_init (k := k) (n := p.num * q.den - q.num * p.den) mulNe (A.d.mul B.d) l
  rw [q_sub] at i
  obtain ⟨m1, m2, m3, m4, m5⟩ := A.mOk B l
  simp_arith [m1, m2, m3, m4, m5, i]
theorem du_sub {C : Orc} : dunder P C mSub (Rt p) [Rt q] = ans (C 4 [.fr (Rt p), .fr (Rt q)]) := dunder_on rfl rfl
theorem r_mul (A : Sq m p) (B : Sq h q) (l : m + h ≤ 9000) : Ev.run P (k + 2) 5 [.fr (Rt p), .fr (Rt q)] = some (.ret (.fr (Rt (p * q))) []) := by
  rw [run_on (F := f_Ratio_mul) rfl rfl]
  show outR [] (execs P _ b_Ratio_mul [] [some (.fr _), some (.fr _)]) = _
  unfold b_Ratio_mul
  have i := r_init (k := k) (n := p.num * q.num) mulNe (A.d.mul B.d) l
  rw [q_mul] at i
  obtain ⟨m1, m2, m3, m4, m5⟩ := A.mOk B l
  simp_arith [m1, m2, m3, m4, m5, i]
theorem du_mul {C : Orc} : dunder P C mMul (Rt p) [Rt q] = ans (C 5 [.fr (Rt p), .fr (Rt q)]) := dunder_on rfl rfl
theorem r_neg (A : Sq m p) (l : m ≤ 9000) : Ev.run P (k + 2) 6 [.fr (Rt p)] = some (.ret (.fr (Rt (-p))) []) := by
  rw [run_on (F := f_Ratio_neg) rfl rfl]
  show outR [] (execs P _ b_Ratio_neg [] [some (.fr _)]) = _
  unfold b_Ratio_neg
  have i := r_init (k := k) (n := -p.num) den_ne A.d l
  rw [q_neg] at i
  simp_arith [i]
theorem du_neg {C : Orc} : dunder P C mNeg (Rt p) [] = ans (C 6 [.fr (Rt p)]) := dunder_on rfl rfl
theorem r_iszero : Ev.run P (k + 1) 7 [.fr (Rt p)] = some (.ret (.fr (.bl (decide (p = 0)))) []) := by
  rw [run_on (F := f_Ratio_is_zero) rfl rfl]
  show outR [] (execs P _ b_Ratio_is_zero [] [some (.fr _)]) = _
  unfold b_Ratio_is_zero
  have e : decide (p.num = 0) = decide (p = 0) := decide_eq_decide.mpr Rat.num_eq_zero
  simp_arith [e]
theorem r_sign : Ev.run P (k + 1) 8 [.fr (Rt p)] = some (.ret (.fr (.int (sgQ p))) []) := by
  rw [run_on (F := f_Ratio_sign) rfl rfl]
  show outR [] (execs P _ b_Ratio_sign [] [some (.fr _)]) = _
  unfold b_Ratio_sign sgQ
  simp_arith []
theorem r_less (A : Sq m p) (B : Sq h q) (l : m + h ≤ 9000) : Ev.run P (k + 1) 9 [.fr (Rt p), .fr (Rt q)] = some (.ret (.fr (.bl (decide (p < q)))) []) := by
  rw [run_on (F := f_less) rfl rfl]
  show outR [] (execs P _ b_less [] [some (.fr _), some (.fr _)]) = _
  unfold b_less
  obtain ⟨m1, m2, m3, m4, m5⟩ := A.mOk B l
  rw [← q_lt]
  simp_arith [m1, m2, m3, m4, m5]
theorem r_eq : Ev.run P (k + 1) 2 [.fr (Rt p), .fr (Rt q)] = some (.ret (.fr (.bl (decide (p = q)))) []) := by
  rw [run_on (F := f_Ratio_eq) rfl rfl]
  show outR [] (execs P _ b_Ratio_eq [] [some (.fr _), some (.fr _)]) = _
  unfold b_Ratio_eq
  rw [← q_eq]
  by_cases h : p.num = q.num
  · have e : decide (p.num = q.num) = true := decide_eq_true h
    simp_arith [ty_cc px_Ratio ps_Ratio_Ratio, e]
  · have e : decide (p.num = q.num) = false := decide_eq_false h
    simp_arith [ty_cc px_Ratio ps_Ratio_Ratio, e]
theorem r_eqno {u : D} (h : notIns u = true) : Ev.run P (k + 1) 2 [.fr (Rt p), .fr u] = some (.ret (.fr (.bl false)) []) := by
  rw [run_on (F := f_Ratio_eq) rfl rfl]
  show outR [] (execs P _ b_Ratio_eq [] [some (.fr _), some (.fr _)]) = _
  unfold b_Ratio_eq
  simp_arith [ty_bc h ps_Ratio_Ratio]
theorem eq_rr {C : Orc} : eqD P C (Rt p) (Rt q) = eqA (C 2 [.fr (Rt p), .fr (Rt q)]) := eq_ins rfl pm_Ratio_eq
theorem eqOk_no {u : D} (h : notIns u = true) : eqOk P 4 u = true := by cases u <;> first | rfl | cases h
theorem eq_ru {C : Orc} {u : D} (h : notIns u = true) : eqD P C (Rt p) u = eqA (C 2 [.fr (Rt p), .fr u]) := eq_ins (eqOk_no h) pm_Ratio_eq
theorem eq_qq : eqD P (Ev.run P (k + 1)) (Rt p) (Rt q) = some (decide (p = q)) := by rw [eq_rr, r_eq]; rfl
theorem eq_qu {u : D} (h : notIns u = true) : eqD P (Ev.run P (k + 1)) (Rt p) u = some false := by rw [eq_ru h, r_eqno h]; rfl
theorem r_state {ns : List Int} : ∃ s0 s1 : Int, Ev.run P (k + 1) 21 [.fr (.frz (ns.map .int))] = some (.ret (.ow [.int s0, .int s1]) []) := by
  rw [run_on (F := f_law_state) rfl rfl]
  show ∃ s0 s1, outR [] (execs P _ b_law_state [] [some (.fr _), none, none, none]) = _
  have hy := cut_map D.int ns none (some 63)
  generalize cut ns none (some 63) = ys at hy
  have loop : ∀ (ys : List Int) (s0 s1 : Int) (x : Option EV) (src : List D), ∃ (t0 t1 : Int) (y : Option EV), forK P (Ev.run P k) (.nm 3) l_law_state_0 [] (src, none) (ys.map D.int) [some (.fr (.frz (ns.map .int))), some (.fr (.int s0)), some (.fr (.int s1)), x] = some (.nx [some (.fr (.frz (ns.map .int))), some (.fr (.int t0)), some (.fr (.int t1)), y]) := by
    intro ys
    induction ys with
    | nil => intro s0 s1 x src; exact ⟨s0, s1, x, rfl⟩
    | cons y ys ih =>
      intro s0 s1 x src
      have m1 : mulOk s0 1000003 = true := mulOk_r (by decide)
      have m2 : mulOk s1 48271 = true := mulOk_r (by decide)
      obtain ⟨t0, t1, w, h⟩ := ih (s0 * 1000003 + (if y < 0 then -y else y)) ((s1 * 48271 + y).fmod 2147483647) (some (.fr (.int y))) src
      refine ⟨t0, t1, w, ?_⟩
      rw [← h, List.map_cons, for_cons]
      unfold l_law_state_0
      simp_arith [m1, m2]
  obtain ⟨t0, t1, w, h⟩ := loop ys 0 1 none (ys.map D.int)
  refine ⟨t0, t1, ?_⟩
  unfold b_law_state
  simp_arith [hy, h]
theorem r_take {s0 s1 : Int} (m : Int) (hm : 0 < m) (sz : Sz 300 m) : ∃ v t0 t1 : Int, (∀ k, Ev.run P (k + 1) 24 [.ow [.int s0, .int s1], .fr (.int m)] = some (.ret (.fr (.int v)) [.ow [.int t0, .int t1]])) ∧ 0 ≤ v ∧ v < m := by
  have dm : divOk m = true := divOk_of (by omega) sz (by decide)
  have d7 : divOk 7 = true := by decide +kernel
  have hm0 : m ≠ 0 := by omega
  by_cases h : 0 < s0
  · have e : decide (0 < s0) = true := decide_eq_true h
    refine ⟨s0.fmod m, s0.fdiv m, s1, fun k => ?_, Int.fmod_nonneg_of_pos _ hm, Int.fmod_lt_of_pos _ hm⟩
    rw [run_on (F := f_law_take) rfl rfl]
    show outR [0] (execs P _ b_law_take [0] [some (.ow _), some (.fr _), none]) = _
    unfold b_law_take
    simp_arith [e, dm, hm0]
  · have e : decide (0 < s0) = false := decide_eq_false h
    have m1 : mulOk s1 48271 = true := mulOk_r (by decide)
    refine ⟨(((s1 * 48271 + 11).fmod 2147483647).fdiv 7).fmod m, s0, (s1 * 48271 + 11).fmod 2147483647, fun k => ?_, Int.fmod_nonneg_of_pos _ hm, Int.fmod_lt_of_pos _ hm⟩
    rw [run_on (F := f_law_take) rfl rfl]
    show outR [0] (execs P _ b_law_take [0] [some (.ow _), some (.fr _), none]) = _
    unfold b_law_take
    simp_arith [e, d7, hm0, m1]
/-- the law's state -/
abbrev St2 (s : Int × Int) : EV := .ow [.int s.1, .int s.2]
theorem t_take (s : Int × Int) (m : Int) (hm : 0 < m) (sz : Sz 300 m) : ∃ (v : Int) (t : Int × Int), (∀ k, Ev.run P (k + 1) 24 [St2 s, .fr (.int m)] = some (.ret (.fr (.int v)) [St2 t])) ∧ 0 ≤ v ∧ v < m := by
  obtain ⟨v, t0, t1, h⟩ := r_take (s0 := s.1) (s1 := s.2) m hm sz
  exact ⟨v, (t0, t1), h⟩
theorem t_state {ns : List Int} : ∃ s : Int × Int, Ev.run P (k + 1) 21 [.fr (.frz (ns.map .int))] = some (.ret (St2 s) []) := by
  obtain ⟨s0, s1, h⟩ := r_state (k := k) (ns := ns)
  exact ⟨(s0, s1), h⟩
/-- data without the odd word, so deep -/
def Od : Nat → D → Prop
  | _, .non => True
  | _, .bl _ => True
  | _, .int _ => True
  | _, .str s => decide (s = "a word that nothing else is") = false
  | _, .ins c ns xs => ∃ q, D.ins c ns xs = Rt q
  | n + 1, .tup xs => xs.length ≤ most ∧ ∀ x ∈ xs, Od n x
  | n + 1, .lst xs => xs.length ≤ most ∧ ∀ x ∈ xs, Od n x
  | _, _ => False
theorem r_odd0 {n : Nat} {d : D} (h : Od n d) (hs : ∀ xs, d ≠ .tup xs ∧ d ≠ .lst xs) : Ev.run P (k + 2) 22 [.fr d] = some (.ret (.fr (.bl false)) []) := by
  rw [run_on (F := f_law_odd) rfl rfl]
  show outR [] (execs P _ b_law_odd [] [some (.fr _), none]) = _
  unfold b_law_odd
  cases d with
  | non => simp_arith [show eqD P (Ev.run P (k + 1)) .non (.str "a word that nothing else is") = some false from rfl]
  | bl b =>
    have e : eqD P (Ev.run P (k + 1)) (.bl b) (.str "a word that nothing else is") = some false := by refine (eq_pl rfl rfl).trans ?_; cases b <;> rfl
    simp_arith [e]
  | int i =>
    have e : eqD P (Ev.run P (k + 1)) (.int i) (.str "a word that nothing else is") = some false := (eq_pl rfl rfl).trans rfl
    simp_arith [e]
  | str s =>
    have h : decide (s = "a word that nothing else is") = false := by cases n <;> exact h
    have e : eqD P (Ev.run P (k + 1)) (.str s) (.str "a word that nothing else is") = some false := (eq_pl rfl rfl).trans (congrArg some h)
    simp_arith [e]
  | ins c ns xs =>
    have h : ∃ q, D.ins c ns xs = Rt q := by cases n <;> exact h
    obtain ⟨q, e⟩ := h
    rw [e]
    have e : eqD P (Ev.run P (k + 1)) (Rt q) (.str "a word that nothing else is") = some false := eq_qu rfl
    have t1 : tyD P (Rt q) .tuple = some false := ty_cb px_Ratio ps_Ratio_Ratio (by intro _ z; cases z)
    have t2 : tyD P (Rt q) .list = some false := ty_cb px_Ratio ps_Ratio_Ratio (by intro _ z; cases z)
    simp_arith [e, t1, t2]
  | tup xs => exact absurd rfl (hs xs).1
  | lst xs => exact absurd rfl (hs xs).2
  | frz xs => cases n <;> exact h.elim
theorem r_odd : ∀ {n k : Nat} {d : D}, Od n d → Ev.run P (k + n + 2) 22 [.fr d] = some (.ret (.fr (.bl false)) []) := by
  intro n
  induction n with
  | zero =>
    intro k d h
    refine r_odd0 h fun xs => ⟨fun z => ?_, fun z => ?_⟩
    · subst z; exact h.elim
    · subst z; exact h.elim
  | succ n ih =>
    intro k d h
    by_cases c : ∀ xs, d ≠ .tup xs ∧ d ≠ .lst xs
    · exact r_odd0 (k := k + n + 1) h c
    · have key : ∀ (xs : List D) (v : D), xs.length ≤ most → (∀ x ∈ xs, Od n x) → lcL none (lcS P (Ev.run P (k + n + 2)) (.nm 1) c_law_odd_0i c_law_odd_0 [1]) xs [] [some (.fr v), none] = some (.ok [] [some (.fr v), none]) := fun xs v hl hx => by
        have := lcL_FM (b := none) (ρ := [some (.fr v), none]) (step := lcS P (Ev.run P (k + n + 2)) (.nm 1) c_law_odd_0i c_law_odd_0 [1]) (g := id) (fun _ => none) (as := xs) (fun x hxx => by
          unfold c_law_odd_0i c_law_odd_0
          have i := ih (k := k) (hx x hxx)
          simp_arith [i, id]) hl
        rw [List.map_id] at this
        rw [this]
        congr 2
        induction xs <;> simp
      have e2 : k + (n + 1) + 2 = (k + n + 2) + 1 := by omega
      rw [e2, run_on (F := f_law_odd) rfl rfl]
      show outR [] (execs P _ b_law_odd [] [some (.fr _), none]) = _
      unfold b_law_odd
      cases d with
      | tup xs =>
        have e : eqD P (Ev.run P (k + n + 2)) (.tup xs) (.str "a word that nothing else is") = some false := eq_off rfl
        have := key xs (.tup xs) h.1 h.2
        simp_arith [e, this]
      | lst xs =>
        have e : eqD P (Ev.run P (k + n + 2)) (.lst xs) (.str "a word that nothing else is") = some false := eq_off rfl
        have := key xs (.lst xs) h.1 h.2
        simp_arith [e, this]
      | _ => exact absurd (fun xs => ⟨nofun, nofun⟩) c
theorem r_hon {n : Nat} {d : D} (h : Od n d) : Ev.run P (k + n + 3) 23 [.fr d] = some (.ret (.fr d) []) := by
  rw [run_on (F := f_law_honest) rfl rfl]
  show outR [] (execs P _ b_law_honest [] [some (.fr _)]) = _
  unfold b_law_honest
  have i := r_odd (k := k) h
  simp_arith [i]
theorem od_rt {n : Nat} : Od n (Rt q) := by cases n <;> exact ⟨q, rfl⟩
theorem od_bl {n : Nat} {b : Bool} : Od n (.bl b) := by cases n <;> trivial
theorem od_int {n : Nat} {b : Int} : Od n (.int b) := by cases n <;> trivial
theorem od_tup {n : Nat} {xs : List D} (h1 : xs.length ≤ most) (h2 : ∀ x ∈ xs, Od n x) : Od (n + 1) (.tup xs) := ⟨h1, h2⟩
theorem od_lst {n : Nat} {xs : List D} (h1 : xs.length ≤ most) (h2 : ∀ x ∈ xs, Od n x) : Od (n + 1) (.lst xs) := ⟨h1, h2⟩
theorem od_qs {n : Nat} {qs : List Rat} : ∀ x ∈ qs.map Rt, Od n x := fun x hx => by
  obtain ⟨q, _, rfl⟩ := List.mem_map.mp hx
  exact od_rt
theorem Od.up : ∀ {n : Nat} {d : D}, Od n d → Od (n + 1) d
  | _, .non, _ => trivial
  | _, .bl _, _ => trivial
  | _, .int _, _ => trivial
  | 0, .str _, h => h
  | _ + 1, .str _, h => h
  | 0, .ins _ _ _, h => h
  | _ + 1, .ins _ _ _, h => h
  | n + 1, .tup _, h => ⟨h.1, fun x hx => (h.2 x hx).up⟩
  | n + 1, .lst _, h => ⟨h.1, fun x hx => (h.2 x hx).up⟩
  | 0, .frz _, h => h.elim
  | _ + 1, .frz _, h => h.elim
theorem Od.upto {n k : Nat} {d : D} (h : Od n d) (le : n ≤ k) : Od k d := by
  obtain ⟨j, rfl⟩ : ∃ j, k = n + j := ⟨k - n, by omega⟩
  clear le
  induction j with
  | zero => exact h
  | succ j ih => exact ih.up
theorem hon4 {d : D} (h : Od 4 d) : Ev.run P (k + 7) 23 [.fr d] = some (.ret (.fr d) []) := r_hon (k := k) (n := 4) h
theorem od_non {n : Nat} : Od n .non := by cases n <;> trivial
theorem od_lmap {α : Type} {n : Nat} {g : α → D} {xs : List α} (h1 : xs.length ≤ most) (h2 : ∀ x ∈ xs, Od n (g x)) : Od (n + 1) (.lst (xs.map g)) := od_lst (by rw [List.length_map]; exact h1) fun z hz => by
  obtain ⟨y, hy, rfl⟩ := List.mem_map.mp hz
  exact h2 y hy
theorem od_tmap {α : Type} {n : Nat} {g : α → D} {xs : List α} (h1 : xs.length ≤ most) (h2 : ∀ x ∈ xs, Od n (g x)) : Od (n + 1) (.tup (xs.map g)) := od_tup (by rw [List.length_map]; exact h1) fun z hz => by
  obtain ⟨y, hy, rfl⟩ := List.mem_map.mp hz
  exact h2 y hy
theorem od_t1 {n : Nat} {a : D} (h : Od n a) : Od (n + 1) (.tup [a]) := ⟨by unfold most; simp, by simpa using h⟩
theorem od_t2 {n : Nat} {a b : D} (h : Od n a) (h2 : Od n b) : Od (n + 1) (.tup [a, b]) := ⟨by unfold most; simp, by simpa using ⟨h, h2⟩⟩
theorem od_t3 {n : Nat} {a b c : D} (h : Od n a) (h2 : Od n b) (h3 : Od n c) : Od (n + 1) (.tup [a, b, c]) := ⟨by unfold most; simp, by simpa using ⟨h, h2, h3⟩⟩
theorem od_t4 {n : Nat} {a b c d : D} (h : Od n a) (h2 : Od n b) (h3 : Od n c) (h4 : Od n d) : Od (n + 1) (.tup [a, b, c, d]) := ⟨by unfold most; simp, by simpa using ⟨h, h2, h3, h4⟩⟩
theorem eqT_refl : ∀ {n N : Nat} {d : D}, Od n d → n ≤ N → eqT P (Ev.run P (k + 1)) N d d = true := by
  have flat : ∀ {n : Nat} {d : D}, Od n d → (∀ xs, d ≠ .tup xs ∧ d ≠ .lst xs) → eq0 P (Ev.run P (k + 1)) d d = true := fun {n d} h c => by
    cases d with
    | non => rfl
    | bl b => exact beq_self_eq_true b
    | int i => exact beq_self_eq_true i
    | str s => exact beq_self_eq_true s
    | ins cc ns xs =>
      have h : ∃ q, D.ins cc ns xs = Rt q := by cases n <;> exact h
      obtain ⟨q, e⟩ := h
      rw [e]
      have e1 : Ev.run P (k + 1) 2 [.fr (Rt q), .fr (Rt q)] = some (.ret (.fr (.bl true)) []) := by rw [r_eq, decide_eq_true rfl]
      unfold eq0
      have e2 : P.meth 4 mEq = some 2 := pm_Ratio_eq
      dsimp only
      rw [e2]
      dsimp only
      rw [e1]
      rfl
    | tup xs => exact absurd rfl (c xs).1
    | lst xs => exact absurd rfl (c xs).2
    | frz xs => cases n <;> exact h.elim
  intro n
  induction n with
  | zero =>
    intro N d h _
    have c : ∀ xs, d ≠ .tup xs ∧ d ≠ .lst xs := fun xs => ⟨fun z => by subst z; exact h.elim, fun z => by subst z; exact h.elim⟩
    have f := flat h c
    cases N with
    | zero => unfold eqT; exact f
    | succ N => cases d <;> first | exact absurd rfl (c _).1 | exact absurd rfl (c _).2 | (unfold eqT; exact f)
  | succ n ih =>
    intro N d h hN
    cases N with
    | zero => omega
    | succ N =>
      have all : ∀ xs : List D, (∀ x ∈ xs, Od n x) → (xs.length == xs.length && (xs.zip xs).all fun p => eqT P (Ev.run P (k + 1)) N p.1 p.2) = true := fun xs hx => by
        rw [beq_self_eq_true, Bool.true_and, List.all_eq_true]
        intro p hp
        obtain ⟨x, y⟩ := p
        have hxy : x = y ∧ x ∈ xs := by
          clear hx
          induction xs with
          | nil => cases hp
          | cons z zs i =>
            rw [List.zip_cons_cons, List.mem_cons] at hp
            rcases hp with hp | hp
            · cases hp; exact ⟨rfl, List.mem_cons_self⟩
            · exact ⟨(i hp).1, List.mem_cons_of_mem _ (i hp).2⟩
        obtain ⟨rfl, hm⟩ := hxy
        exact ih (hx x hm) (by omega)
      by_cases c : ∀ xs, d ≠ .tup xs ∧ d ≠ .lst xs
      · have f := flat h c
        cases d <;> first | exact absurd rfl (c _).1 | exact absurd rfl (c _).2 | (unfold eqT; exact f)
      · cases d with
        | tup xs => rw [eqT]; exact all xs h.2
        | lst xs => rw [eqT]; exact all xs h.2
        | _ => exact absurd (fun xs => ⟨nofun, nofun⟩) c
/-- what is the same is equal -/
theorem eq_self {n : Nat} {d : D} (h : Od n d) (hn : n ≤ 4) : eqD P (Ev.run P (k + 1)) d d = some true := by
  by_cases hp : (pl 6 d && pl 6 d) = true
  · have h6 := (Bool.and_eq_true _ _).mp hp
    rw [eq_pl h6.1 h6.1, PySem.SeqAt.eqv_refl_plain _ (pl_plain 6 d h6.1).1]
  · cases d with
    | ins c ns xs =>
      have h : ∃ q, D.ins c ns xs = Rt q := by cases n <;> exact h
      obtain ⟨q, e⟩ := h
      rw [e, eq_qq, decide_eq_true rfl]
    | tup xs =>
      have t := eqT_refl (k := k) h hn
      unfold eqD
      rw [if_neg hp, if_neg (show ¬ offD (.tup xs) (.tup xs) = true from nofun)]
      dsimp only
      rw [if_pos t]
    | lst xs =>
      have t := eqT_refl (k := k) h hn
      unfold eqD
      rw [if_neg hp, if_neg (show ¬ offD (.lst xs) (.lst xs) = true from nofun)]
      dsimp only
      rw [if_pos t]
    | frz xs => cases n <;> exact h.elim
    | _ => exact absurd rfl hp
theorem od_tq {qs : List Rat} (h : qs.length ≤ most) : Od 1 (.tup (qs.map Rt)) := od_tup (by rw [List.length_map]; exact h) od_qs
theorem od_lq {qs : List Rat} (h : qs.length ≤ most) : Od 1 (.lst (qs.map Rt)) := od_lst (by rw [List.length_map]; exact h) od_qs
theorem eqs4 {d : D} (h : Od 4 d) : eqD P (Ev.run P (k + 1)) d d = some true := eq_self h (by decide)
theorem i_zero : Ev.run P (k + 1) 1 [.oi 4 [] [], .fr (.int 0)] = some (.ret (.fr .non) [.oi 4 [0, 1] [.int (0 : Rat).num, .int (0 : Rat).den]]) := r_init1
theorem r_greatest {v : D} {q0 : Rat} {qs rs : List Rat} (e0 : qs = q0 :: rs) (hv : v = .tup (qs.map Rt) ∨ v = .lst (qs.map Rt)) (hq : ∀ q ∈ qs, Sq m q) (hm : m ≤ 4500) : Ev.run P (k + 2) 12 [.fr v] = some (.ret (.fr (Rt (qs.foldl mxQ q0))) []) := by
  rw [run_on (F := f_greatest) rfl rfl]
  show outR [] (execs P _ b_greatest [] [some (.fr v), none, none]) = _
  have hit : itemsOf v = some (qs.map Rt) := by rcases hv with rfl | rfl <;> rfl
  have hix : idxD v (.int 0) = some (.ok (.fr (Rt q0))) := idx_0 (xs := rs.map Rt) (by rw [e0] at hv; exact hv)
  obtain ⟨ρ', lp, y, rfl, _⟩ := for_I (P := P) (C := Ev.run P (k + 1)) (t := .nm 2) (b := l_greatest_0) (mu := []) (src := qs.map Rt) (g := Rt) (as := qs) (ρ := [some (.fr v), some (.fr (Rt q0)), none]) (fun pre ρ => ∃ y, ρ = [some (.fr v), some (.fr (Rt (pre.foldl mxQ q0))), y] ∧ Sq m (pre.foldl mxQ q0)) (fun pre a post ρ e ⟨y, z, s⟩ => by
    subst z
    have ha : Sq m a := hq a (by rw [e]; simp)
    have i := r_less (k := k) s ha (by omega)
    have ef : (pre ++ [a]).foldl mxQ q0 = mxQ (pre.foldl mxQ q0) a := by rw [List.foldl_append]; rfl
    rw [ef]
    by_cases c : pre.foldl mxQ q0 < a
    · have c' : decide (pre.foldl mxQ q0 < a) = true := decide_eq_true c
      rw [mxQ_t c]
      refine ⟨_, ?_, some (.fr (Rt a)), rfl, ha⟩
      unfold l_greatest_0
      simp_arith [i, c']
    · have c' : decide (pre.foldl mxQ q0 < a) = false := decide_eq_false c
      rw [mxQ_f c]
      refine ⟨_, ?_, some (.fr (Rt a)), rfl, s⟩
      unfold l_greatest_0
      simp_arith [i, c']) ⟨none, rfl, hq q0 (by rw [e0]; exact List.mem_cons_self)⟩
  unfold b_greatest
  simp_arith [hix, hit, lp]
def rowQ (n : Nat) (d : Nat → Nat → Rat) (x : Nat) : D := .tup ((List.range n).map fun y => Rt (d x y))
def rowsQ (n : Nat) (d : Nat → Nat → Rat) : List D := (List.range n).map (rowQ n d)
theorem rowsQ_len {n : Nat} {d : Nat → Nat → Rat} : (rowsQ n d).length = n := by unfold rowsQ; simp
theorem rowsQ_get {n : Nat} {d : Nat → Nat → Rat} {x : Nat} (hx : x < n) : (rowsQ n d)[x]? = some (rowQ n d x) := by unfold rowsQ; exact rg_get hx
theorem ixQ1 {n : Nat} {d : Nat → Nat → Rat} {x : Nat} (hx : x < n) : idxD (.tup (rowsQ n d)) (.int (x : Int)) = some (.ok (.fr (rowQ n d x))) := by
  rw [ix_t, rowsQ_len, ixD_nat hx, ixL_s]
  unfold rowsQ
  rw [rg_get hx]; rfl
theorem ixQ2 {n : Nat} {d : Nat → Nat → Rat} {x y : Nat} (hy : y < n) : idxD (rowQ n d x) (.int (y : Int)) = some (.ok (.fr (Rt (d x y)))) := by
  unfold rowQ
  rw [ix_t, List.length_map, List.length_range, ixD_nat hy, ixL_s, rg_get hy]; rfl
theorem od_rowQ {n k : Nat} {d : Nat → Nat → Rat} {x : Nat} (hn : n ≤ most) : Od (k + 1) (rowQ n d x) := od_tup (by simpa using hn) fun z hz => by
  obtain ⟨y, _, rfl⟩ := List.mem_map.mp hz
  exact od_rt
theorem od_rowsQ {n k : Nat} {d : Nat → Nat → Rat} (hn : n ≤ most) : Od (k + 2) (.tup (rowsQ n d)) := od_tup (by rw [rowsQ_len]; exact hn) fun z hz => by
  unfold rowsQ at hz
  obtain ⟨y, _, rfl⟩ := List.mem_map.mp hz
  exact od_rowQ hn
theorem r_factor {s : Int × Int} : ∃ (a b : Int) (t : Int × Int), (∀ k, Ev.run P (k + 2) 34 [St2 s] = some (.ret (.fr (.tup [.int a, .int b])) [St2 t])) ∧ 0 < a ∧ a ≤ 4 ∧ 0 < b ∧ b ≤ 4 := by
  obtain ⟨v1, s1, h1, l1, u1⟩ := t_take s 4 (by decide) (by unfold Sz; decide +kernel)
  obtain ⟨v2, s2, h2, l2, u2⟩ := t_take s1 3 (by decide) (by unfold Sz; decide +kernel)
  refine ⟨1 + v1, 1 + v2, s2, fun k => ?_, by omega, by omega, by omega, by omega⟩
  have h1 := h1 k
  have h2 := h2 k
  rw [run_on (F := f_law_factor) rfl rfl]
  show outR [0] (execs P _ b_law_factor [0] [some (.ow _)]) = _
  unfold b_law_factor
  simp_arith [h1, h2]
theorem i_div {n d : Int} (hd0 : 0 < d) (hd : d ≤ 2 ^ 50) : Ev.run P (k + 1) 1 [.oi 4 [] [], .fr (.int n), .fr (.int d)] = some (.ret (.fr .non) [.oi 4 [0, 1] [.int (Rat.divInt n d).num, .int (Rat.divInt n d).den]]) := r_init (m := 60) (by omega) (by unfold Sz; omega) (by decide)
theorem r_ratios {n : Nat} {f : Nat → Nat → Int} {a b A B : Int} {v : D} (hv : itemsOf v = some (rowsT n f)) (hn : n ≤ 1000) (ha : 0 < a) (ha4 : a ≤ A) (hb : 0 < b) (hb4 : b ≤ B) (hA : A ≤ 2 ^ 50 := by decide) (hB : B ≤ 2 ^ 50 := by decide) : Ev.run P (k + 2) 35 [.fr v, .fr (.tup [.int a, .int b])] = some (.ret (.fr (.tup (rowsQ n fun x y => scl a b (f x y)))) []) := by
  have hn' : n ≤ most := by unfold most; omega
  have l1 : ∀ x, lcL none (lcS P (Ev.run P (k + 1)) (.nm 3) .nil c_law_ratios_1 [3]) ((List.range n).map fun y => .int (f x y)) [] [some (.fr v), some (.fr (.tup [.int a, .int b])), some (.fr (rowT n f x)), none] = some (.ok ((List.range n).map fun y => Rt (scl a b (f x y))) [some (.fr v), some (.fr (.tup [.int a, .int b])), some (.fr (rowT n f x)), none]) := fun x => by
    refine lcL_T _ (fun y hy => ?_) (by simpa using hn')
    have i := i_div (k := k) (n := f x y * a) hb (by omega)
    have mo : mulOk (f x y) a = true := mulOk_r (by omega)
    unfold c_law_ratios_1 scl
    simp_arith [i, mo]
  have l2 : lcL none (lcS P (Ev.run P (k + 1)) (.nm 2) .nil c_law_ratios_0 [2]) (rowsT n f) [] [some (.fr v), some (.fr (.tup [.int a, .int b])), none, none] = some (.ok (rowsQ n fun x y => scl a b (f x y)) [some (.fr v), some (.fr (.tup [.int a, .int b])), none, none]) := by
    unfold rowsT rowsQ
    refine lcL_T _ (fun x hx => ?_) (by simpa using hn')
    have l := l1 x
    have e : itemsOf (rowT n f x) = some ((List.range n).map fun y => .int (f x y)) := rfl
    unfold c_law_ratios_0 rowQ
    simp_arith [e, l]
  rw [run_on (F := f_law_ratios) rfl rfl]
  show outR [] (execs P _ b_law_ratios [] [some (.fr _), some (.fr _), none, none]) = _
  unfold b_law_ratios
  simp_arith [hv, l2]
theorem r_isrt0 : Ev.run P (k + 1) 10 [.fr (Rt q)] = some (.ret (.fr (.bl true)) []) := by
  rw [run_on (F := f_is_rational) rfl rfl]
  show outR [] (execs P _ b_is_rational [] [some (.fr _)]) = _
  unfold b_is_rational
  simp_arith [ty_cc px_Ratio ps_Ratio_Ratio]
theorem r_asrt0 : Ev.run P (k + 1) 11 [.fr (Rt q)] = some (.ret (.fr (Rt q)) []) := by
  rw [run_on (F := f_as_ratio) rfl rfl]
  show outR [] (execs P _ b_as_ratio [] [some (.fr _)]) = _
  unfold b_as_ratio
  simp_arith [ty_cc px_Ratio ps_Ratio_Ratio]
theorem r_isrti {i : Int} : Ev.run P (k + 2) 10 [.fr (.int i)] = some (.ret (.fr (.bl true)) []) := by
  rw [run_on (F := f_is_rational) rfl rfl]
  show outR [] (execs P _ b_is_rational [] [some (.fr _)]) = _
  unfold b_is_rational
  simp_arith [ty_bc (a := .int i) rfl ps_Ratio_Ratio, r_isint]
theorem r_asrti {i : Int} : Ev.run P (k + 2) 11 [.fr (.int i)] = some (.ret (.fr (Rt (i : Rat))) []) := by
  have h := r_init1 (k := k) (n := i)
  have e : (D.ins 4 [0, 1] [.int i, .int 1]) = Rt (i : Rat) := rfl
  rw [run_on (F := f_as_ratio) rfl rfl]
  show outR [] (execs P _ b_as_ratio [] [some (.fr _)]) = _
  unfold b_as_ratio
  simp_arith [ty_bc (a := .int i) rfl ps_Ratio_Ratio, r_isint, h, e]
abbrev SeqOf (v : D) (xs : List D) : Prop := v = .lst xs ∨ v = .tup xs
theorem seq_it {v : D} {xs : List D} (h : SeqOf v xs) : itemsOf v = some xs := by rcases h with rfl | rfl <;> rfl
theorem seq_len {v : D} {xs : List D} (h : SeqOf v xs) : lenD v = some (.ok (.fr (.int xs.length))) := by rcases h with rfl | rfl <;> rfl
theorem seq_isa {v : D} {xs : List D} (h : SeqOf v xs) : isaD P v [.list, .tuple] = some true := by rcases h with rfl | rfl <;> rfl
/-- rows of numbers as they are handed -/
structure RowsD (n : Nat) (d : Nat → Nat → Rat) (v : D) (g : Nat → D) (it : Nat → Nat → D) : Prop where
  top : SeqOf v ((List.range n).map g)
  row : ∀ x, x < n → SeqOf (g x) ((List.range n).map (it x))
  item : ∀ x y, x < n → y < n → it x y = Rt (d x y) ∨ ∃ i : Int, it x y = .int i ∧ d x y = (i : Rat)
theorem r_taken {n : Nat} {d : Nat → Nat → Rat} {v : D} {g : Nat → D} {it : Nat → Nat → D} (R : RowsD n d v g it) (h1 : 1 ≤ n) (hn : n ≤ 1000) : Ev.run P (k + 3) 13 [.fr v] = some (.ret (.fr (.tup (rowsQ n d))) []) := by
  have hn' : n ≤ most := by unfold most; omega
  have en : decide ((n : Int) = n) = true := decide_eq_true rfl
  have L := (for_A (P := P) (C := Ev.run P (k + 2)) (t := (.nm 1)) (b := l_taken_rows_0) (mu := []) (src := (List.range n).map (g)) (g := g) (as := List.range n) (ρ := [some (.fr (v)), none, none])) (fun x hx => by
    have hx := List.mem_range.mp hx
    have L2 := (for_A (P := P) (C := Ev.run P (k + 2)) (t := (.nm 2)) (b := l_taken_rows_1) (mu := []) (src := (List.range n).map (it x)) (g := it x) (as := List.range n) (ρ := [some (.fr (v)), some (.fr (g x)), none])) (fun y hy => by
      unfold l_taken_rows_1
      rcases R.item x y hx (List.mem_range.mp hy) with e | ⟨i, e, _⟩
      · rw [e]; simp_arith [r_isrt0]
      · rw [e]; simp_arith [r_isrti])
    have a1 := seq_it (R.row x hx)
    have a2 := seq_len (R.row x hx)
    have a3 := seq_isa (R.row x hx)
    have a4 := seq_len R.top
    rw [List.length_map, List.length_range] at a2 a4
    unfold l_taken_rows_0
    simp_arith [L2, a1, a2, a3, a4, en])
  have l1 : ∀ x, x < n → lcL none (lcS P (Ev.run P (k + 2)) (.nm 2) .nil c_taken_rows_1 [2]) ((List.range n).map (it x)) [] [some (.fr (v)), some (.fr (g x)), none] = some (.ok ((List.range n).map fun y => Rt (d x y)) [some (.fr (v)), some (.fr (g x)), none]) := fun x hx => by
    refine lcL_T _ (fun y hy => ?_) (by simpa using hn')
    unfold c_taken_rows_1
    rcases R.item x y hx (List.mem_range.mp hy) with e | ⟨i, e, e2⟩
    · rw [e]; simp_arith [r_asrt0]
    · rw [e, e2]; simp_arith [r_asrti]
  have l2 : lcL none (lcS P (Ev.run P (k + 2)) (.nm 1) .nil c_taken_rows_0 [1]) ((List.range n).map g) [] [some (.fr (v)), none, none] = some (.ok (rowsQ n d) [some (.fr (v)), none, none]) := by
    refine lcL_T (as := List.range n) (g := g) (rowQ n d) (fun x hx => ?_) (by simpa using hn')
    have hx := List.mem_range.mp hx
    have l := l1 x hx
    have a1 := seq_it (R.row x hx)
    have e : D.tup ((List.range n).map fun y => Rt (d x y)) = rowQ n d x := rfl
    unfold c_taken_rows_0
    simp_arith [a1, l, e]
  have a1 := seq_it R.top
  have a2 := seq_len R.top
  have a3 := seq_isa R.top
  rw [List.length_map, List.length_range] at a2
  have e0 : decide ((n : Int) = 0) = false := decide_eq_false (by omega)
  rw [run_on (F := f_taken_rows) rfl rfl]
  show outR [] (execs P _ b_taken_rows [] [some (.fr _), none, none]) = _
  unfold b_taken_rows
  simp_arith [L, l2, a1, a2, a3, e0]
theorem rows_tup {n : Nat} {d : Nat → Nat → Rat} : RowsD n d (.tup (rowsQ n d)) (rowQ n d) (fun x y => Rt (d x y)) := ⟨.inr rfl, fun _ _ => .inr rfl, fun _ _ _ _ => .inl rfl⟩
theorem rows_lst {n : Nat} {d : Nat → Nat → Rat} : RowsD n d (.lst ((List.range n).map fun x => D.lst ((List.range n).map fun y => Rt (d x y)))) (fun x => D.lst ((List.range n).map fun y => Rt (d x y))) (fun x y => Rt (d x y)) := ⟨.inl rfl, fun _ _ => .inl rfl, fun _ _ _ _ => .inl rfl⟩
theorem kt2 {m n x y : Nat} {d : Nat → Nat → Rat} {z0 : Option EV} {src : List D} (M : MetQ m n d) (hm : m ≤ 1000) (hx : x < n) (hy : y < n) : ∃ z', forK P (Ev.run P (k + 2)) (.nm 4) l_keeps_triangles_2 [] (src, none) (rngD 0 n) [some (.fr (.tup (rowsQ n d))), some (.fr (.int n)), some (.fr (.int x)), some (.fr (.int y)), z0] = some (.nx [some (.fr (.tup (rowsQ n d))), some (.fr (.int n)), some (.fr (.int x)), some (.fr (.int y)), z']) := by
  obtain ⟨ρ', h, z', rfl⟩ := for_R0 (P := P) (C := Ev.run P (k + 2)) (t := .nm 4) (b := l_keeps_triangles_2) (mu := []) (src := src) (n := n) (ρ := [some (.fr (.tup (rowsQ n d))), some (.fr (.int n)), some (.fr (.int x)), some (.fr (.int y)), z0]) (fun _ ρ => ∃ z', ρ = [some (.fr (.tup (rowsQ n d))), some (.fr (.int n)), some (.fr (.int x)), some (.fr (.int y)), z'])
    (fun z ρ hz ⟨z1, e⟩ => by
      subst e
      have a1 := r_add (k := k) (M.sq x y hx hy) (M.sq y z hy hz) (by omega)
      have a2 := r_sub (k := k) ((M.sq x y hx hy).add (M.sq y z hy hz)) (M.sq x z hx hz) (by omega)
      have a3 := r_sign (k := k + 1) (p := d x y + d y z - d x z)
      have nn : decide (d x y + d y z - d x z < 0) = false := decide_eq_false (by
        rw [Rat.not_lt, ← Rat.le_iff_sub_nonneg]
        exact M.tri x y z hx hy hz)
      have i1 := ixQ1 (n := n) (d := d) hx
      have i2 := ixQ1 (n := n) (d := d) hy
      have j1 := ixQ2 (n := n) (d := d) (x := x) hy
      have j2 := ixQ2 (n := n) (d := d) (x := y) hz
      have j3 := ixQ2 (n := n) (d := d) (x := x) hz
      refine ⟨_, ?_, some (.fr (.int z)), rfl⟩
      unfold l_keeps_triangles_2
      simp_arith [i1, i2, j1, j2, j3, du_add, du_sub, a1, a2, a3, sgQ_lt, nn]) ⟨z0, rfl⟩
  exact ⟨z', h⟩
theorem kt1 {m n x : Nat} {d : Nat → Nat → Rat} {y0 z0 : Option EV} {src : List D} (M : MetQ m n d) (hm : m ≤ 1000) (hn : n ≤ 1000) (hx : x < n) : ∃ y' z', forK P (Ev.run P (k + 2)) (.nm 3) l_keeps_triangles_1 [] (src, none) (rngD 0 n) [some (.fr (.tup (rowsQ n d))), some (.fr (.int n)), some (.fr (.int x)), y0, z0] = some (.nx [some (.fr (.tup (rowsQ n d))), some (.fr (.int n)), some (.fr (.int x)), y', z']) := by
  obtain ⟨ρ', h, y', z', rfl⟩ := for_R0 (P := P) (C := Ev.run P (k + 2)) (t := .nm 3) (b := l_keeps_triangles_1) (mu := []) (src := src) (n := n) (ρ := [some (.fr (.tup (rowsQ n d))), some (.fr (.int n)), some (.fr (.int x)), y0, z0]) (fun _ ρ => ∃ y' z', ρ = [some (.fr (.tup (rowsQ n d))), some (.fr (.int n)), some (.fr (.int x)), y', z'])
    (fun y ρ hy ⟨y1, z1, e⟩ => by
      subst e
      obtain ⟨z2, h2⟩ := kt2 (k := k) (z0 := z1) (src := rngD 0 n) M hm hx hy
      have i1 := ixQ1 (n := n) (d := d) hx
      have i2 := ixQ1 (n := n) (d := d) hy
      have j1 := ixQ2 (n := n) (d := d) (x := x) hy
      have j2 := ixQ2 (n := n) (d := d) (x := y) hx
      have hr := rngK_n (ρ := [some (.fr (.tup (rowsQ n d))), some (.fr (.int n)), some (.fr (.int x)), some (.fr (.int y)), z1]) (n := n) (by omega) (by omega)
      rw [Int.toNat_natCast] at hr
      have es : eqD P (Ev.run P (k + 2)) (Rt (d x y)) (Rt (d y x)) = some true := by rw [eq_qq, decide_eq_true (M.sym x y hx hy)]
      refine ⟨_, ?_, some (.fr (.int y)), z2, rfl⟩
      unfold l_keeps_triangles_1
      simp_arith [i1, i2, j1, j2, es, hr, h2]) ⟨y0, z0, rfl⟩
  exact ⟨y', z', h⟩
theorem r_keeps {m n : Nat} {d : Nat → Nat → Rat} (M : MetQ m n d) (hm : m ≤ 1000) (hn : n ≤ 1000) : Ev.run P (k + 3) 14 [.fr (.tup (rowsQ n d))] = some (.ret (.fr (.bl true)) []) := by
  obtain ⟨ρ', h, x', y', z', rfl⟩ := for_R0 (P := P) (C := Ev.run P (k + 2)) (t := .nm 2) (b := l_keeps_triangles_0) (mu := []) (src := rngD 0 n) (n := n) (ρ := [some (.fr (.tup (rowsQ n d))), some (.fr (.int n)), none, none, none]) (fun _ ρ => ∃ x' y' z', ρ = [some (.fr (.tup (rowsQ n d))), some (.fr (.int n)), x', y', z'])
    (fun x ρ hx ⟨x1, y1, z1, e⟩ => by
      subst e
      obtain ⟨y2, z2, h2⟩ := kt1 (k := k) (y0 := y1) (z0 := z1) (src := rngD 0 n) M hm hn hx
      have i1 := ixQ1 (n := n) (d := d) hx
      have j1 := ixQ2 (n := n) (d := d) (x := x) hx
      have hr := rngK_n (ρ := [some (.fr (.tup (rowsQ n d))), some (.fr (.int n)), some (.fr (.int x)), y1, z1]) (n := n) (by omega) (by omega)
      rw [Int.toNat_natCast] at hr
      have iz := r_iszero (k := k + 1) (p := d x x)
      rw [decide_eq_true (M.zero x hx)] at iz
      refine ⟨_, ?_, some (.fr (.int x)), y2, z2, rfl⟩
      unfold l_keeps_triangles_0
      simp_arith [i1, j1, iz, hr, h2]) ⟨none, none, none, rfl⟩
  have hr := rngK_n (ρ := [some (.fr (.tup (rowsQ n d))), some (.fr (.int n)), none, none, none]) (n := n) (by omega) (by omega)
  rw [Int.toNat_natCast] at hr
  rw [run_on (F := f_keeps_triangles) rfl rfl]
  show outR [] (execs P _ b_keeps_triangles [] [some (.fr _), none, none, none, none]) = _
  unfold b_keeps_triangles
  simp_arith [rowsQ_len, hr, h]
theorem ia1 {m n x : Nat} {d : Nat → Nat → Rat} {y0 : Option EV} {src : List D} (M : MetQ m n d) (hx : x < n) : ∃ y', forK P (Ev.run P (k + 1)) (.nm 2) l_is_apart_1 [] (src, none) (rngD 0 x) [some (.fr (.tup (rowsQ n d))), some (.fr (.int x)), y0] = some (.nx [some (.fr (.tup (rowsQ n d))), some (.fr (.int x)), y']) := by
  obtain ⟨ρ', h, y', rfl⟩ := for_R0 (P := P) (C := Ev.run P (k + 1)) (t := .nm 2) (b := l_is_apart_1) (mu := []) (src := src) (n := x) (ρ := [some (.fr (.tup (rowsQ n d))), some (.fr (.int x)), y0]) (fun _ ρ => ∃ y', ρ = [some (.fr (.tup (rowsQ n d))), some (.fr (.int x)), y'])
    (fun y ρ hy ⟨y1, e⟩ => by
      subst e
      have i1 := ixQ1 (n := n) (d := d) hx
      have j1 := ixQ2 (n := n) (d := d) (x := x) (y := y) (by omega)
      have a3 := r_sign (k := k) (p := d x y)
      have nn : decide (d x y ≤ 0) = false := decide_eq_false (by
        rw [Rat.not_le]
        exact M.pos x y hx (by omega) (by omega))
      refine ⟨_, ?_, some (.fr (.int y)), rfl⟩
      unfold l_is_apart_1
      simp_arith [i1, j1, a3, sgQ_le, nn]) ⟨y0, rfl⟩
  exact ⟨y', h⟩
theorem r_apart {m n : Nat} {d : Nat → Nat → Rat} (M : MetQ m n d) (hn : n ≤ 1000) : Ev.run P (k + 2) 15 [.fr (.tup (rowsQ n d))] = some (.ret (.fr (.bl true)) []) := by
  obtain ⟨ρ', h, x', y', rfl⟩ := for_R0 (P := P) (C := Ev.run P (k + 1)) (t := .nm 1) (b := l_is_apart_0) (mu := []) (src := rngD 0 n) (n := n) (ρ := [some (.fr (.tup (rowsQ n d))), none, none]) (fun _ ρ => ∃ x' y', ρ = [some (.fr (.tup (rowsQ n d))), x', y'])
    (fun x ρ hx ⟨x1, y1, e⟩ => by
      subst e
      obtain ⟨y2, h2⟩ := ia1 (k := k) (y0 := y1) (src := rngD 0 x) M hx
      have hr := rngK_n (ρ := [some (.fr (.tup (rowsQ n d))), some (.fr (.int x)), y1]) (n := x) (by omega) (by omega)
      rw [Int.toNat_natCast] at hr
      refine ⟨_, ?_, some (.fr (.int x)), y2, rfl⟩
      unfold l_is_apart_0
      simp_arith [hr, h2]) ⟨none, none, rfl⟩
  have hr := rngK_n (ρ := [some (.fr (.tup (rowsQ n d))), none, none]) (n := n) (by omega) (by omega)
  rw [Int.toNat_natCast] at hr
  rw [run_on (F := f_is_apart) rfl rfl]
  show outR [] (execs P _ b_is_apart [] [some (.fr _), none, none]) = _
  unfold b_is_apart
  simp_arith [rowsQ_len, hr, h]
/-- a metric as the program holds it -/
abbrev Mq (n : Nat) (d : Nat → Nat → Rat) : D := .ins 5 [0, 2] [.int n, .tup (rowsQ n d)]
theorem r_metricG {m n : Nat} {d : Nat → Nat → Rat} {v : D} {g : Nat → D} {it : Nat → Nat → D} (R : RowsD n d v g it) (M : MetQ m n d) (hm : m ≤ 1000) (h1 : 1 ≤ n) (hn : n ≤ 8) : Ev.run P (k + 4) 16 [.oi 5 [] [], .fr v] = some (.ret (.fr .non) [.oi 5 [0, 2] [.int n, .tup (rowsQ n d)]]) := by
  have t := r_taken (k := k) R h1 (by omega : n ≤ 1000)
  have kt := r_keeps (k := k) M hm (by omega)
  have ia := r_apart (k := k + 1) M (by omega)
  have e8 : decide ((8 : Int) < n) = false := decide_eq_false (by omega)
  rw [run_on (F := f_Metric_init) rfl rfl]
  show outR [0] (execs P _ b_Metric_init [0] [some (.oi _ _ _), some (.fr _), none]) = _
  unfold b_Metric_init
  simp_arith [t, kt, ia, rowsQ_len, e8]
theorem r_metric {m n : Nat} {d : Nat → Nat → Rat} (M : MetQ m n d) (hm : m ≤ 1000) (h1 : 1 ≤ n) (hn : n ≤ 8) : Ev.run P (k + 4) 16 [.oi 5 [] [], .fr (.tup (rowsQ n d))] = some (.ret (.fr .non) [.oi 5 [0, 2] [.int n, .tup (rowsQ n d)]]) := r_metricG rows_tup M hm h1 hn
local macro_rules | `(tactic| simp! [$ls,*]) => `(tactic| simp (disch := first | assumption | decide | omega | decreasing_trivial | fail) only [bindR_ok_, bindR_ex_, bindF_ok_, bindF_ex_, bO_some, tF_nx, tF_rt, tF_ex, brB_t, brB_f, brT_t, brT_f, onT_s, outR_rt, outR_nx, outR_ex, ve_non, ve_bl, ve_int, ve_str, ve_var, varK_fr, varK_ow, ve_own, ve_glob, ve_op_, ve_and_, ve_or_, ve_not_, ve_ife_, ve_call_, ve_new_, ve_meth_, methK_ins_, vl_nil, vl_bor_, vl_mut_, vl_cons_, get_z, get_s, vl_cst_, vl_var_, vl_own_, vl_glob_, vl_op_, vl_and_, vl_or_, vl_not_, vl_ife_, vl_call_, vl_new_, vl_meth_, vl_chain_, vl_lc_, vl_pop_, vi_cst_, vi_var_, vi_own_, vi_glob_, vi_op_, vi_and_, vi_or_, vi_not_, vi_ife_, vi_call_, vi_new_, vi_meth_, vi_chain_, vi_lc_, vi_pop_, execs_nil, execs_cons, exec_pass, exec_asg_, exec_par_, exec_fld_, exec_expr_, exec_ret_, exec_retn, exec_ifs_, exec_sub_, exec_app_, exec_aug, augK_int_, exec_for_, for_nil, for_cons, evI_rng__, exec_try, tryK_ex, tryK_nx, tryK_rt, o_add, o_sub, o_mul, o_fdiv, o_mod, o_pow, o_neg, o_eq, o_ne, o_lt, o_le, o_gt, o_ge, o_is, o_isnot, o_isin, o_notin, o_idx, o_tup1, o_tup2, o_tup3, o_tup4, o_tup5, o_tup6, o_tup7, o_tup8, o_tup9, o_tup10, o_tup11, o_tup12, o_lst0, o_lst1, o_lst2, o_lst3, o_lst4, o_lst5, o_lst6, o_lst7, o_lst8, o_lst9, o_lst10, o_lst11, o_lst12, o_attr, o_len, o_abs, o_int, o_tuple, o_list, o_any, o_all, o_sum, o_gcd, o_max, o_min, o_isa, o_sl11, o_sl10, o_sl01, boolA_s, valA_s, lift_ok, lift_ex, add_i, sub_i, mul_i, fdiv_i, mod_i, neg_i, cmp_i, int2_i, abs_i, int_i, int_b, len_l, len_t, len_z, ix_l, ix_t, ix_z, ixL_s, itA_s, attr_i, eqA_s, orc0, orc1, orc2, orc3, k_add, k_sub, k_mul, k_fdiv, k_mod, k_pow, k_neg, k_eq, k_ne, k_lt, k_le, k_gt, k_ge, k_isin, k_notin, k_is, k_isnot, k_idx, k_len, k_abs, k_int, k_str, k_tuple, k_list, k_min, k_max, k_sum, k_any, k_all, k_gcd, k_slice, k_attr, k_isa, k_tup, k_lst, ix_1_0, ix_1_m, ix_2_0, ix_2_1, ix_2_m, ix_3_0, ix_3_1, ix_3_2, ix_3_m, ix_4_0, ix_4_1, ix_4_2, ix_4_3, ix_4_m, ix_5_0, ix_5_1, ix_5_2, ix_5_3, ix_5_4, ix_5_m, ix_6_0, ix_6_1, ix_6_2, ix_6_3, ix_6_4, ix_6_5, ix_6_m, ix_7_0, ix_7_1, ix_7_2, ix_7_3, ix_7_4, ix_7_5, ix_7_6, ix_7_m, ix_9_0, ix_9_1, ix_9_2, ix_9_3, ix_9_4, ix_9_5, ix_9_6, ix_9_7, ix_9_8, ix_9_m, ix_12_0, ix_12_1, ix_12_2, ix_12_3, ix_12_4, ix_12_5, ix_12_6, ix_12_7, ix_12_8, ix_12_9, ix_12_10, ix_12_11, ix_12_m, putR_s, putR_x, putR_ow, putR_oi, ownE_ow, ownE_oi, newR_s, newR_x, xr_str, outM_ow, outM_oi, sl_l, sl_z, isa_nil, isa_cons, add_ins, sub_ins, mul_ins, neg_ins, ans_s, ans_x, views, view, arg, args, EV.fz, truth, OD.isD, OD.isB, OD.isM, EV.own, EV.plain, noLst, noLsts, asgT, List.all_cons, List.all_nil, List.any_cons, List.any_nil, Bool.and_true, Bool.true_and, Bool.and_false, Bool.false_and, Bool.or_false, Bool.or_true, Bool.true_or, Bool.false_or, Bool.not_true, Bool.not_false, Bool.false_eq_true, ↓reduceIte, reduceCtorEq, Nat.reduceAdd, Nat.reduceLT, Nat.reduceLeDiff, Nat.reduceSub, Int.reduceNeg, List.length_cons, List.length_nil, List.set_cons_zero, List.set_cons_succ, List.contains_nil, owns, setE, appE, augE, fldE, Option.map_some, lookF_cons, putFD_nil, putFD_cs, eq_int, eq_bl, eq_tup2, List.contains_cons, Nat.reduceBEq, Nat.reduceEqDiff, beq_self_eq_true, Bool.or_self, ne_eq, not_false_eq_true, decide_true, decide_false, Int.reduceEq, Int.reduceLT, Int.reduceLE, Int.reduceAdd, Int.reduceMul, Int.reduceSub, setAll, List.getElem?_cons_zero, List.getElem?_cons_succ, tq_non_int, tq_non_bool, tq_non_str, tq_non_tuple, tq_non_list, tq_non_c, tq_bl_int, tq_bl_bool, tq_bl_str, tq_bl_tuple, tq_bl_list, tq_bl_c, tq_int_int, tq_int_bool, tq_int_str, tq_int_tuple, tq_int_list, tq_int_c, tq_str_int, tq_str_bool, tq_str_str, tq_str_tuple, tq_str_list, tq_str_c, tq_tup_int, tq_tup_bool, tq_tup_str, tq_tup_tuple, tq_tup_list, tq_tup_c, tq_lst_int, tq_lst_bool, tq_lst_str, tq_lst_tuple, tq_lst_list, tq_lst_c, tq_frz_int, tq_frz_bool, tq_frz_str, tq_frz_tuple, tq_frz_list, tq_frz_c, tq_ins_int, tq_ins_bool, tq_ins_str, tq_ins_tuple, tq_ins_list, tq_ins_c, isD, List.isEmpty_nil, List.isEmpty_cons, Option.map_none, List.map_cons, List.map_nil, ve_lc, lcE_s, lcS_eq, evC_nil, evC_one, wipeD_nil, wipeD_cons, backD_nil, backD_cons, turn_eq, Option.join_some, Option.join_none, it_lst, it_tup, it_frz, tup_l, tup_t, lst_l, lst_t, vl_lt_, vl_ix2_, vl_lrg_, vi_lt_, vi_ix2_, vi_lrg_, ltE_s, ve_lt, owK_s, ltS_eq, cm_cst, cmV_s, cm_var, cm2_s, cm_add, cm_sub, ix2K_s, ve_ix2, exec_st, exec_sts, stsK_2, asgLs_nil, asgLs_cons, asgL_nm, asgL_sub, sub1K_s, asgL_sub2, sub2K_s, popE_1, popE_0, ve_pop, ve_lrg, chK_t, chK_f, ve_chain, vi_zip, zipK_l, zipK_t, varK_tb, ixD_z, vi_bor, itB_ow, itB_fr, itB_ft, ixD_z, lcL_n, lcL_c, lcO_n, lcO_0, lcO_1, lcO_2, lcO_3, ixD_z, cz_0, cz_1, cz_2, cz_3, cz_4, ixD_z, List.cons_append, List.nil_append, ixD_z, o_max1, o_min1, k_max1, k_min1, exec_kill, exec_frz, frzD_nil, frzD_cons, frzV_ow, frzV_tb, frzV_fr, o_tup0, okM_n, okM_dd, okM_bb, pl_bl, pl_i, ixD_z, o_shl, k_shl, exec_ext, rngK_c, rngK_cc, rngK_sc, rngK_s, mulOk_l, mulOk_r, divOk_s, dlt_t, dlt_f, dle_t, dle_f, deq_t, deq_f, len_rg_l, List.length_map, List.length_range, Int.natCast_inj, F.rt.injEq, F.nx.injEq, Option.some.injEq, true_and, exists_eq', exists_eq, List.range_zero, List.foldl_nil, List.filter_nil, List.flatMap_nil, ixD_nat, rg_get, mapN_get, mapI_get, mapQ_get, add_l, add_t, in_Nt, in_Nl, all_m, any_m, sum_m, putR_p, popK_rg, fmod_two, shl_i, mul_t, mul_l, extK_s, rep1, pow_2, hon4, eqs4, rowsQ_len, ixQ2, rowsQ_get, ap_is_integer_1, mk_Ratio_1, mk_Ratio_2, ap_Ratio_eq_2, ap_Ratio_add_2, ap_Ratio_sub_2, ap_Ratio_mul_2, ap_Ratio_neg_1, ap_Ratio_is_zero_1, ap_Ratio_sign_1, ap_less_2, ap_is_rational_1, ap_as_ratio_1, ap_greatest_1, ap_taken_rows_1, ap_keeps_triangles_1, ap_is_apart_1, mk_Metric_1, ap_Metric_eq_2, ap_failing_triple_1, ap_is_ultrametric_1, ap_single_linkage_1, ap_law_state_1, ap_law_odd_1, ap_law_honest_1, ap_law_take_1, ap_law_order_of_1, ap_law_shortest_1, ap_law_web_2, ap_law_renamed_2, ap_law_of_tree_1, ap_law_grid_1, ap_law_band_1, ap_law_levels_1, ap_law_rows_1, ap_law_factor_0, ap_law_ratios_2, ao_law_ratios_2, ap_law_steps_4, ap_law_1, px_Fault, ps_Fault_Fault, ps_Fault_Malformed, ps_Fault_ZeroDivisor, ps_Fault_Refused, ps_Fault_Ratio, ps_Fault_Metric, px_Malformed, ps_Malformed_Fault, ps_Malformed_Malformed, ps_Malformed_ZeroDivisor, ps_Malformed_Refused, ps_Malformed_Ratio, ps_Malformed_Metric, px_ZeroDivisor, ps_ZeroDivisor_Fault, ps_ZeroDivisor_Malformed, ps_ZeroDivisor_ZeroDivisor, ps_ZeroDivisor_Refused, ps_ZeroDivisor_Ratio, ps_ZeroDivisor_Metric, px_Refused, ps_Refused_Fault, ps_Refused_Malformed, ps_Refused_ZeroDivisor, ps_Refused_Refused, ps_Refused_Ratio, ps_Refused_Metric, px_Ratio, ps_Ratio_Fault, ps_Ratio_Malformed, ps_Ratio_ZeroDivisor, ps_Ratio_Refused, ps_Ratio_Ratio, ps_Ratio_Metric, pm_Ratio_init, pm_Ratio_eq, pm_Ratio_add, pm_Ratio_sub, pm_Ratio_mul, pm_Ratio_neg, pm_Ratio_is_zero, pm_Ratio_sign, pf_Ratio_n, pf_Ratio_d, px_Metric, ps_Metric_Fault, ps_Metric_Malformed, ps_Metric_ZeroDivisor, ps_Metric_Refused, ps_Metric_Ratio, ps_Metric_Metric, pm_Metric_init, pm_Metric_eq, pf_Metric_n, pf_Metric_rows, pg_MOST, $ls,*])
local macro_rules | `(tactic| simp!) => `(tactic| simp (disch := first | assumption | decide | omega | decreasing_trivial | fail) only [bindR_ok_, bindR_ex_, bindF_ok_, bindF_ex_, bO_some, tF_nx, tF_rt, tF_ex, brB_t, brB_f, brT_t, brT_f, onT_s, outR_rt, outR_nx, outR_ex, ve_non, ve_bl, ve_int, ve_str, ve_var, varK_fr, varK_ow, ve_own, ve_glob, ve_op_, ve_and_, ve_or_, ve_not_, ve_ife_, ve_call_, ve_new_, ve_meth_, methK_ins_, vl_nil, vl_bor_, vl_mut_, vl_cons_, get_z, get_s, vl_cst_, vl_var_, vl_own_, vl_glob_, vl_op_, vl_and_, vl_or_, vl_not_, vl_ife_, vl_call_, vl_new_, vl_meth_, vl_chain_, vl_lc_, vl_pop_, vi_cst_, vi_var_, vi_own_, vi_glob_, vi_op_, vi_and_, vi_or_, vi_not_, vi_ife_, vi_call_, vi_new_, vi_meth_, vi_chain_, vi_lc_, vi_pop_, execs_nil, execs_cons, exec_pass, exec_asg_, exec_par_, exec_fld_, exec_expr_, exec_ret_, exec_retn, exec_ifs_, exec_sub_, exec_app_, exec_aug, augK_int_, exec_for_, for_nil, for_cons, evI_rng__, exec_try, tryK_ex, tryK_nx, tryK_rt, o_add, o_sub, o_mul, o_fdiv, o_mod, o_pow, o_neg, o_eq, o_ne, o_lt, o_le, o_gt, o_ge, o_is, o_isnot, o_isin, o_notin, o_idx, o_tup1, o_tup2, o_tup3, o_tup4, o_tup5, o_tup6, o_tup7, o_tup8, o_tup9, o_tup10, o_tup11, o_tup12, o_lst0, o_lst1, o_lst2, o_lst3, o_lst4, o_lst5, o_lst6, o_lst7, o_lst8, o_lst9, o_lst10, o_lst11, o_lst12, o_attr, o_len, o_abs, o_int, o_tuple, o_list, o_any, o_all, o_sum, o_gcd, o_max, o_min, o_isa, o_sl11, o_sl10, o_sl01, boolA_s, valA_s, lift_ok, lift_ex, add_i, sub_i, mul_i, fdiv_i, mod_i, neg_i, cmp_i, int2_i, abs_i, int_i, int_b, len_l, len_t, len_z, ix_l, ix_t, ix_z, ixL_s, itA_s, attr_i, eqA_s, orc0, orc1, orc2, orc3, k_add, k_sub, k_mul, k_fdiv, k_mod, k_pow, k_neg, k_eq, k_ne, k_lt, k_le, k_gt, k_ge, k_isin, k_notin, k_is, k_isnot, k_idx, k_len, k_abs, k_int, k_str, k_tuple, k_list, k_min, k_max, k_sum, k_any, k_all, k_gcd, k_slice, k_attr, k_isa, k_tup, k_lst, ix_1_0, ix_1_m, ix_2_0, ix_2_1, ix_2_m, ix_3_0, ix_3_1, ix_3_2, ix_3_m, ix_4_0, ix_4_1, ix_4_2, ix_4_3, ix_4_m, ix_5_0, ix_5_1, ix_5_2, ix_5_3, ix_5_4, ix_5_m, ix_6_0, ix_6_1, ix_6_2, ix_6_3, ix_6_4, ix_6_5, ix_6_m, ix_7_0, ix_7_1, ix_7_2, ix_7_3, ix_7_4, ix_7_5, ix_7_6, ix_7_m, ix_9_0, ix_9_1, ix_9_2, ix_9_3, ix_9_4, ix_9_5, ix_9_6, ix_9_7, ix_9_8, ix_9_m, ix_12_0, ix_12_1, ix_12_2, ix_12_3, ix_12_4, ix_12_5, ix_12_6, ix_12_7, ix_12_8, ix_12_9, ix_12_10, ix_12_11, ix_12_m, putR_s, putR_x, putR_ow, putR_oi, ownE_ow, ownE_oi, newR_s, newR_x, xr_str, outM_ow, outM_oi, sl_l, sl_z, isa_nil, isa_cons, add_ins, sub_ins, mul_ins, neg_ins, ans_s, ans_x, views, view, arg, args, EV.fz, truth, OD.isD, OD.isB, OD.isM, EV.own, EV.plain, noLst, noLsts, asgT, List.all_cons, List.all_nil, List.any_cons, List.any_nil, Bool.and_true, Bool.true_and, Bool.and_false, Bool.false_and, Bool.or_false, Bool.or_true, Bool.true_or, Bool.false_or, Bool.not_true, Bool.not_false, Bool.false_eq_true, ↓reduceIte, reduceCtorEq, Nat.reduceAdd, Nat.reduceLT, Nat.reduceLeDiff, Nat.reduceSub, Int.reduceNeg, List.length_cons, List.length_nil, List.set_cons_zero, List.set_cons_succ, List.contains_nil, owns, setE, appE, augE, fldE, Option.map_some, lookF_cons, putFD_nil, putFD_cs, eq_int, eq_bl, eq_tup2, List.contains_cons, Nat.reduceBEq, Nat.reduceEqDiff, beq_self_eq_true, Bool.or_self, ne_eq, not_false_eq_true, decide_true, decide_false, Int.reduceEq, Int.reduceLT, Int.reduceLE, Int.reduceAdd, Int.reduceMul, Int.reduceSub, setAll, List.getElem?_cons_zero, List.getElem?_cons_succ, tq_non_int, tq_non_bool, tq_non_str, tq_non_tuple, tq_non_list, tq_non_c, tq_bl_int, tq_bl_bool, tq_bl_str, tq_bl_tuple, tq_bl_list, tq_bl_c, tq_int_int, tq_int_bool, tq_int_str, tq_int_tuple, tq_int_list, tq_int_c, tq_str_int, tq_str_bool, tq_str_str, tq_str_tuple, tq_str_list, tq_str_c, tq_tup_int, tq_tup_bool, tq_tup_str, tq_tup_tuple, tq_tup_list, tq_tup_c, tq_lst_int, tq_lst_bool, tq_lst_str, tq_lst_tuple, tq_lst_list, tq_lst_c, tq_frz_int, tq_frz_bool, tq_frz_str, tq_frz_tuple, tq_frz_list, tq_frz_c, tq_ins_int, tq_ins_bool, tq_ins_str, tq_ins_tuple, tq_ins_list, tq_ins_c, isD, List.isEmpty_nil, List.isEmpty_cons, Option.map_none, List.map_cons, List.map_nil, ve_lc, lcE_s, lcS_eq, evC_nil, evC_one, wipeD_nil, wipeD_cons, backD_nil, backD_cons, turn_eq, Option.join_some, Option.join_none, it_lst, it_tup, it_frz, tup_l, tup_t, lst_l, lst_t, vl_lt_, vl_ix2_, vl_lrg_, vi_lt_, vi_ix2_, vi_lrg_, ltE_s, ve_lt, owK_s, ltS_eq, cm_cst, cmV_s, cm_var, cm2_s, cm_add, cm_sub, ix2K_s, ve_ix2, exec_st, exec_sts, stsK_2, asgLs_nil, asgLs_cons, asgL_nm, asgL_sub, sub1K_s, asgL_sub2, sub2K_s, popE_1, popE_0, ve_pop, ve_lrg, chK_t, chK_f, ve_chain, vi_zip, zipK_l, zipK_t, varK_tb, ixD_z, vi_bor, itB_ow, itB_fr, itB_ft, ixD_z, lcL_n, lcL_c, lcO_n, lcO_0, lcO_1, lcO_2, lcO_3, ixD_z, cz_0, cz_1, cz_2, cz_3, cz_4, ixD_z, List.cons_append, List.nil_append, ixD_z, o_max1, o_min1, k_max1, k_min1, exec_kill, exec_frz, frzD_nil, frzD_cons, frzV_ow, frzV_tb, frzV_fr, o_tup0, okM_n, okM_dd, okM_bb, pl_bl, pl_i, ixD_z, o_shl, k_shl, exec_ext, rngK_c, rngK_cc, rngK_sc, rngK_s, mulOk_l, mulOk_r, divOk_s, dlt_t, dlt_f, dle_t, dle_f, deq_t, deq_f, len_rg_l, List.length_map, List.length_range, Int.natCast_inj, F.rt.injEq, F.nx.injEq, Option.some.injEq, true_and, exists_eq', exists_eq, List.range_zero, List.foldl_nil, List.filter_nil, List.flatMap_nil, ixD_nat, rg_get, mapN_get, mapI_get, mapQ_get, add_l, add_t, in_Nt, in_Nl, all_m, any_m, sum_m, putR_p, popK_rg, fmod_two, shl_i, mul_t, mul_l, extK_s, rep1, pow_2, hon4, eqs4, rowsQ_len, ixQ2, rowsQ_get, ap_is_integer_1, mk_Ratio_1, mk_Ratio_2, ap_Ratio_eq_2, ap_Ratio_add_2, ap_Ratio_sub_2, ap_Ratio_mul_2, ap_Ratio_neg_1, ap_Ratio_is_zero_1, ap_Ratio_sign_1, ap_less_2, ap_is_rational_1, ap_as_ratio_1, ap_greatest_1, ap_taken_rows_1, ap_keeps_triangles_1, ap_is_apart_1, mk_Metric_1, ap_Metric_eq_2, ap_failing_triple_1, ap_is_ultrametric_1, ap_single_linkage_1, ap_law_state_1, ap_law_odd_1, ap_law_honest_1, ap_law_take_1, ap_law_order_of_1, ap_law_shortest_1, ap_law_web_2, ap_law_renamed_2, ap_law_of_tree_1, ap_law_grid_1, ap_law_band_1, ap_law_levels_1, ap_law_rows_1, ap_law_factor_0, ap_law_ratios_2, ao_law_ratios_2, ap_law_steps_4, ap_law_1, px_Fault, ps_Fault_Fault, ps_Fault_Malformed, ps_Fault_ZeroDivisor, ps_Fault_Refused, ps_Fault_Ratio, ps_Fault_Metric, px_Malformed, ps_Malformed_Fault, ps_Malformed_Malformed, ps_Malformed_ZeroDivisor, ps_Malformed_Refused, ps_Malformed_Ratio, ps_Malformed_Metric, px_ZeroDivisor, ps_ZeroDivisor_Fault, ps_ZeroDivisor_Malformed, ps_ZeroDivisor_ZeroDivisor, ps_ZeroDivisor_Refused, ps_ZeroDivisor_Ratio, ps_ZeroDivisor_Metric, px_Refused, ps_Refused_Fault, ps_Refused_Malformed, ps_Refused_ZeroDivisor, ps_Refused_Refused, ps_Refused_Ratio, ps_Refused_Metric, px_Ratio, ps_Ratio_Fault, ps_Ratio_Malformed, ps_Ratio_ZeroDivisor, ps_Ratio_Refused, ps_Ratio_Ratio, ps_Ratio_Metric, pm_Ratio_init, pm_Ratio_eq, pm_Ratio_add, pm_Ratio_sub, pm_Ratio_mul, pm_Ratio_neg, pm_Ratio_is_zero, pm_Ratio_sign, pf_Ratio_n, pf_Ratio_d, px_Metric, ps_Metric_Fault, ps_Metric_Malformed, ps_Metric_ZeroDivisor, ps_Metric_Refused, ps_Metric_Ratio, ps_Metric_Metric, pm_Metric_init, pm_Metric_eq, pf_Metric_n, pf_Metric_rows, pg_MOST])
local macro_rules | `(tactic| decreasing_trivial) => `(tactic| first | exact mulOk_l (by omega) | exact mulOk_r (by omega) | exact od_rt | exact od_int | exact od_bl | exact od_non | (refine od_tmap ?_ fun _ _ => ?_ <;> decreasing_trivial) | (refine od_lmap ?_ fun _ _ => ?_ <;> decreasing_trivial) | (unfold most; simp only [List.length_map, List.length_range, List.length_cons, List.length_nil, List.length_append]; omega) | (refine od_t2 ?_ ?_ <;> decreasing_trivial) | (refine od_t1 ?_ <;> decreasing_trivial) | (refine od_t3 ?_ ?_ ?_ <;> decreasing_trivial) | (refine od_t4 ?_ ?_ ?_ ?_ <;> decreasing_trivial) | exact Od.upto (od_rowsQ (by unfold most; omega)) (by decide) | exact Od.upto (od_tI (by assumption)) (by decide))
variable {X0 X1 X2 X3 X4 X5 X6 X7 X8 X9 X10 X11 X12 X13 X14 X15 X16 X17 X18 X19 X20 X21 X22 X23 X24 X25 X26 X27 X28 X29 X30 X31 X32 X33 X34 X35 X36 X37 X38 X39 : Option EV}
theorem sh2 {C : Orc} {x n : Nat} {f g : Nat → Nat → Int} {A y0 : Option EV} {src : List D} (W : Way n k f) (hk : k < n) (hx : x < n) (sp : ∀ i j, i < n → j < n → g i j = if i < x then min (f i j) (f i k + f k j) else f i j) :
    ∃ g' y', forK P C (.nm 6) l_law_shortest_2 [] (src, none) (rngD 0 n) [A, some (.fr (.int n)), some (.tb (tb n (gI g))), some (.fr (.int k)), some (.fr (.int x)), none, y0] = some (.nx [A, some (.fr (.int n)), some (.tb (tb n (gI g'))), some (.fr (.int k)), some (.fr (.int x)), none, y']) ∧
      ∀ i j, i < n → j < n → g' i j = if i < x + 1 then min (f i j) (f i k + f k j) else f i j := by
  obtain ⟨ρ', h, g', y', rfl, sp'⟩ := for_R0 (P := P) (C := C) (t := .nm 6) (b := l_law_shortest_2) (mu := []) (src := src) (n := n) (ρ := [A, some (.fr (.int n)), some (.tb (tb n (gI g))), some (.fr (.int k)), some (.fr (.int x)), none, y0])
    (fun y ρ => ∃ g' y', ρ = [A, some (.fr (.int n)), some (.tb (tb n (gI g'))), some (.fr (.int k)), some (.fr (.int x)), none, y'] ∧ ∀ i j, i < n → j < n → g' i j = if i < x ∨ (i = x ∧ j < y) then min (f i j) (f i k + f k j) else f i j)
    (fun y ρ hy ⟨g1, y1, e, s⟩ => by
      subst e
      have e1 : g1 x y = f x y := by rw [s x y hx hy, if_neg (by omega)]
      have kk := W.zero k hk
      have e2 : g1 x k = f x k := by
        rw [s x k hx hk]
        split
        · rw [kk]; omega
        · rfl
      have e3 : g1 k y = f k y := by
        rw [s k y hk hy]
        split
        · rw [kk]; omega
        · rfl
      have i1 := ix2_I (g := g1) hx hy
      have i2 := ix2_I (g := g1) hx hk
      have i3 := ix2_I (g := g1) hk hy
      have st := set2_I (g := g1) (v := min (g1 x y) (g1 x k + g1 k y)) hx hy
      refine ⟨[A, some (.fr (.int n)), some (.tb (tb n (gI (upI g1 x y (min (g1 x y) (g1 x k + g1 k y)))))), some (.fr (.int k)), some (.fr (.int x)), none, some (.fr (.int y))], ?_, _, _, rfl, fun i j hi hj => ?_⟩
      · unfold l_law_shortest_2
        simp_arith [i1, i2, i3, min_if, st]
      · unfold upI
        rw [e1, e2, e3]
        by_cases c : i = x ∧ j = y
        · rw [if_pos c, if_pos (by omega), c.1, c.2]
        · rw [if_neg c, s i j hi hj]
          by_cases d : i < x ∨ (i = x ∧ j < y)
          · rw [if_pos d, if_pos (by omega)]
          · rw [if_neg d, if_neg (by omega)]) ⟨g, y0, rfl, fun i j hi hj => by rw [sp i j hi hj]; simp⟩
  refine ⟨g', y', h, fun i j hi hj => ?_⟩
  rw [sp' i j hi hj]
  by_cases c : i < x + 1
  · rw [if_pos c, if_pos (by omega)]
  · rw [if_neg c, if_neg (by omega)]
theorem sh1 {C : Orc} {n : Nat} {f : Nat → Nat → Int} {A x0 y0 : Option EV} {src : List D} (W : Way n k f) (hk : k < n) (hn : n ≤ 1000) :
    ∃ g' x' y', forK P C (.nm 4) l_law_shortest_1 [] (src, none) (rngD 0 n) [A, some (.fr (.int n)), some (.tb (tb n (gI f))), some (.fr (.int k)), x0, none, y0] = some (.nx [A, some (.fr (.int n)), some (.tb (tb n (gI g'))), some (.fr (.int k)), x', none, y']) ∧ Way n (k + 1) g' := by
  obtain ⟨ρ', h, g', x', y', rfl, sp'⟩ := for_R0 (P := P) (C := C) (t := .nm 4) (b := l_law_shortest_1) (mu := []) (src := src) (n := n) (ρ := [A, some (.fr (.int n)), some (.tb (tb n (gI f))), some (.fr (.int k)), x0, none, y0])
    (fun x ρ => ∃ g' x' y', ρ = [A, some (.fr (.int n)), some (.tb (tb n (gI g'))), some (.fr (.int k)), x', none, y'] ∧ ∀ i j, i < n → j < n → g' i j = if i < x then min (f i j) (f i k + f k j) else f i j)
    (fun x ρ hx ⟨g1, x1, y1, e, s⟩ => by
      subst e
      obtain ⟨g2, y2, h, s2⟩ := sh2 (C := C) (A := A) (y0 := y1) (src := rngD 0 n) W hk hx s
      refine ⟨_, ?_, g2, some (.fr (.int x)), y2, rfl, s2⟩
      have hr := rngK_n (ρ := [A, some (.fr (.int n)), some (.tb (tb n (gI g1))), some (.fr (.int k)), some (.fr (.int x)), none, y1]) (n := n) (by omega) (by omega)
      unfold l_law_shortest_1
      rw [Int.toNat_natCast] at hr
      simp_arith [hr, h]) ⟨f, x0, y0, rfl, fun i j hi hj => by simp⟩
  exact ⟨g', x', y', h, W.step hk fun x y hx hy => by rw [sp' x y hx hy, if_pos hx]⟩
theorem sh0 {C : Orc} {n : Nat} {f : Nat → Nat → Int} {A k0 x0 y0 : Option EV} {src : List D} (W : Way n 0 f) (hn : n ≤ 1000) :
    ∃ g' k' x' y', forK P C (.nm 3) l_law_shortest_0 [] (src, none) (rngD 0 n) [A, some (.fr (.int n)), some (.tb (tb n (gI f))), k0, x0, none, y0] = some (.nx [A, some (.fr (.int n)), some (.tb (tb n (gI g'))), k', x', none, y']) ∧ Way n n g' := by
  obtain ⟨ρ', h, g', k', x', y', rfl, sp'⟩ := for_R0 (P := P) (C := C) (t := .nm 3) (b := l_law_shortest_0) (mu := []) (src := src) (n := n) (ρ := [A, some (.fr (.int n)), some (.tb (tb n (gI f))), k0, x0, none, y0])
    (fun k ρ => ∃ g' k' x' y', ρ = [A, some (.fr (.int n)), some (.tb (tb n (gI g'))), k', x', none, y'] ∧ Way n k g')
    (fun k ρ hk ⟨g1, k1, x1, y1, e, s⟩ => by
      subst e
      obtain ⟨g2, x2, y2, h, s2⟩ := sh1 (C := C) (A := A) (x0 := x1) (y0 := y1) (src := rngD 0 n) s hk hn
      refine ⟨_, ?_, g2, some (.fr (.int k)), x2, y2, rfl, s2⟩
      have hr := rngK_n (ρ := [A, some (.fr (.int n)), some (.tb (tb n (gI g1))), some (.fr (.int k)), x1, none, y1]) (n := n) (by omega) (by omega)
      unfold l_law_shortest_0
      rw [Int.toNat_natCast] at hr
      simp_arith [hr, h]) ⟨f, k0, x0, y0, rfl, W⟩
  exact ⟨g', k', x', y', h, sp'⟩
theorem r_shortest {n : Nat} {f : Nat → Nat → Int} (W : Way n 0 f) (hn : n ≤ 1000) : ∃ g, Met n g ∧ Ev.run P (k + 1) 26 [.fr (.lst ((tb n (gI f)).map .lst))] = some (.ret (.ow (rowsT n g)) []) := by
  have hr : rngK [some (.fr (.lst ((tb n (gI f)).map .lst))), some (.fr (.int n)), some (.tb (tb n (gI f))), none, none, none, none] (some [.int (n : Int)]) = _ := rngK_n (by omega) (by omega)
  rw [Int.toNat_natCast] at hr
  have hn' : n ≤ most := by unfold most; omega
  obtain ⟨g, k', x', y', h, w⟩ := sh0 (C := Ev.run P k) (A := some (.fr (.lst ((tb n (gI f)).map .lst)))) (k0 := none) (x0 := none) (y0 := none) (src := rngD 0 n) W hn
  refine ⟨g, w.met, ?_⟩
  have l1 : ltL none (ltS P (Ev.run P k) (.nm 5) c_law_shortest_0 [5]) ((tb n (gI f)).map .lst) [] [some (.fr (.lst ((tb n (gI f)).map .lst))), some (.fr (.int n)), none, none, none, none, none] = some (.ok (tb n (gI f)) [some (.fr (.lst ((tb n (gI f)).map .lst))), some (.fr (.int n)), none, none, none, none, none]) := by
    rw [ltL_T (g := D.lst) id (fun a ha => ?_) (by rw [tb_len]; exact hn'), List.map_id]
    unfold c_law_shortest_0
    simp_arith [id]
  have l2 : lcL none (lcS P (Ev.run P k) (.nm 5) .nil c_law_shortest_1 [5]) ((tb n (gI g)).map .lst) [] [some (.fr (.lst ((tb n (gI f)).map .lst))), some (.fr (.int n)), some (.fr (.lst ((tb n (gI g)).map .lst))), k', x', none, y'] = some (.ok ((tb n (gI g)).map .tup) [some (.fr (.lst ((tb n (gI f)).map .lst))), some (.fr (.int n)), some (.fr (.lst ((tb n (gI g)).map .lst))), k', x', none, y']) := by
    refine lcL_T (g := D.lst) D.tup (fun a ha => ?_) (by rw [tb_len]; exact hn')
    unfold c_law_shortest_1
    simp_arith []
  have e : (tb n (gI g)).map D.tup = rowsT n g := by unfold tb rowsT rowT; rw [List.map_map]; rfl
  rw [run_on (F := f_law_shortest) rfl rfl]
  show outR [] (execs P _ b_law_shortest [] [some (.fr _), none, none, none, none, none, none]) = _
  unfold b_law_shortest
  simp_arith [l1, l2, h, hr, tb_len, List.length_map, e]
theorem way_up {n : Nat} {g : Nat → Nat → Int} {x z : Nat} {v : Int} (W : Way n 0 g) (hxz : x ≠ z) (h0 : 0 < v) (h1 : v ≤ 10000) : Way n 0 (upI (upI g x z v) z x v) where
  zero := fun i hi => by unfold upI; rw [if_neg (by omega), if_neg (by omega)]; exact W.zero i hi
  sym := fun i j hi hj => by
    have := W.sym i j hi hj
    unfold upI
    by_cases c1 : i = z ∧ j = x
    · rw [if_pos c1, if_neg (by omega), if_pos (by omega)]
    · rw [if_neg c1]
      by_cases c2 : i = x ∧ j = z
      · rw [if_pos c2, if_pos (by omega)]
      · rw [if_neg c2, if_neg (by omega), if_neg (by omega)]; exact this
  pos := fun i j hi hj c => by
    have := W.pos i j hi hj c
    unfold upI
    split
    · exact h0
    · split
      · exact h0
      · exact this
  tri := fun i j l _ hj => absurd hj (by omega)
  le := fun i j hi hj => by
    have := W.le i j hi hj
    unfold upI
    split
    · exact h1
    · split
      · exact h1
      · exact this
def far (x y : Nat) : Int := if x = y then 0 else 10000
theorem way_far {n : Nat} : Way n 0 far where
  zero := fun x _ => by unfold far; rw [if_pos rfl]
  sym := fun x y _ _ => by unfold far; by_cases c : x = y <;> simp [c, eq_comm]
  pos := fun x y _ _ c => by unfold far; rw [if_neg c]; decide
  tri := fun i j l _ hj => absurd hj (by omega)
  le := fun x y _ _ => by unfold far; split <;> decide
theorem wb1 {n x : Nat} {thick : Int} (ht : 0 < thick) (ht2 : Sz 300 thick) (hx : x < n) (hn : n ≤ 1000) {s : Int × Int} {g : Nat → Nat → Int} {y0 z0 l0 : Option EV} {src : List D} (W : Way n 0 g) :
    ∃ s' g' y' z' l', forK P (Ev.run P (k + 1)) (.nm 5) l_law_web_1 [0] (src, none) (rngD 0 x) [some (St2 s), some (.fr (.int n)), some (.fr (.int thick)), some (.tb (tb n (gI g))), some (.fr (.int x)), y0, z0, l0] = some (.nx [some (St2 s'), some (.fr (.int n)), some (.fr (.int thick)), some (.tb (tb n (gI g'))), some (.fr (.int x)), y', z', l']) ∧ Way n 0 g' := by
  obtain ⟨ρ', h, s', g', y', z', l', rfl, w⟩ := for_R0 (P := P) (C := Ev.run P (k + 1)) (t := .nm 5) (b := l_law_web_1) (mu := [0]) (src := src) (n := x) (ρ := [some (St2 s), some (.fr (.int n)), some (.fr (.int thick)), some (.tb (tb n (gI g))), some (.fr (.int x)), y0, z0, l0])
    (fun _ ρ => ∃ s' g' y' z' l', ρ = [some (St2 s'), some (.fr (.int n)), some (.fr (.int thick)), some (.tb (tb n (gI g'))), some (.fr (.int x)), y', z', l'] ∧ Way n 0 g')
    (fun y ρ hy ⟨s1, g1, y1, z1, l1, e, w⟩ => by
      subst e
      by_cases c : (y : Int) = x - 1
      · have c' : decide ((y : Int) = x - 1) = true := decide_eq_true c
        obtain ⟨v, s2, h2, b1, b2⟩ := t_take s1 x (by omega) (by unfold Sz; omega)
        obtain ⟨l, s3, h3, b3, b4⟩ := t_take s2 4 (by decide) (by unfold Sz; decide +kernel)
        obtain ⟨z, rfl⟩ := Int.eq_ofNat_of_zero_le b1
        have st1 := set2_I (g := g1) (x := x) (y := z) (v := 1 + l) hx (by omega)
        have st2 := set2_I (g := upI g1 x z (1 + l)) (x := z) (y := x) (v := 1 + l) (by omega) hx
        refine ⟨_, ?_, s3, upI (upI g1 x z (1 + l)) z x (1 + l), some (.fr (.int y)), some (.fr (.int z)), some (.fr (.int (1 + l))), rfl, way_up w (by omega) (by omega) (by omega)⟩
        unfold l_law_web_1
        have h2 := h2 k
        have h3 := h3 k
        simp_arith [c', h2, h3, st1, st2]
      · have c' : decide ((y : Int) = x - 1) = false := decide_eq_false c
        obtain ⟨v, s2, h2, b1, b2⟩ := t_take s1 thick ht ht2
        by_cases d : v = 0
        · have d' : decide (v = 0) = true := decide_eq_true d
          obtain ⟨l, s3, h3, b3, b4⟩ := t_take s2 4 (by decide) (by unfold Sz; decide +kernel)
          have st1 := set2_I (g := g1) (x := x) (y := y) (v := 1 + l) hx (by omega)
          have st2 := set2_I (g := upI g1 x y (1 + l)) (x := y) (y := x) (v := 1 + l) (by omega) hx
          refine ⟨_, ?_, s3, upI (upI g1 x y (1 + l)) y x (1 + l), some (.fr (.int y)), some (.fr (.int y)), some (.fr (.int (1 + l))), rfl, way_up w (by omega) (by omega) (by omega)⟩
          unfold l_law_web_1
          have h2 := h2 k
          have h3 := h3 k
          simp_arith [c', d', h2, h3, st1, st2]
        · have d' : decide (v = 0) = false := decide_eq_false d
          refine ⟨_, ?_, s2, g1, some (.fr (.int y)), z1, l1, rfl, w⟩
          unfold l_law_web_1
          have h2 := h2 k
          simp_arith [c', d', h2]) ⟨s, g, y0, z0, l0, rfl, W⟩
  exact ⟨s', g', y', z', l', h, w⟩
theorem wb0 {n : Nat} {thick : Int} (ht : 0 < thick) (ht2 : Sz 300 thick) (hn : n ≤ 1000) {s : Int × Int} {g : Nat → Nat → Int} {x0 y0 z0 l0 : Option EV} {src : List D} (W : Way n 0 g) :
    ∃ s' g' x' y' z' l', forK P (Ev.run P (k + 1)) (.nm 4) l_law_web_0 [0] (src, none) (rngD 0 n) [some (St2 s), some (.fr (.int n)), some (.fr (.int thick)), some (.tb (tb n (gI g))), x0, y0, z0, l0] = some (.nx [some (St2 s'), some (.fr (.int n)), some (.fr (.int thick)), some (.tb (tb n (gI g'))), x', y', z', l']) ∧ Way n 0 g' := by
  obtain ⟨ρ', h, s', g', x', y', z', l', rfl, w⟩ := for_R0 (P := P) (C := Ev.run P (k + 1)) (t := .nm 4) (b := l_law_web_0) (mu := [0]) (src := src) (n := n) (ρ := [some (St2 s), some (.fr (.int n)), some (.fr (.int thick)), some (.tb (tb n (gI g))), x0, y0, z0, l0])
    (fun _ ρ => ∃ s' g' x' y' z' l', ρ = [some (St2 s'), some (.fr (.int n)), some (.fr (.int thick)), some (.tb (tb n (gI g'))), x', y', z', l'] ∧ Way n 0 g')
    (fun x ρ hx ⟨s1, g1, x1, y1, z1, l1, e, w⟩ => by
      subst e
      obtain ⟨s2, g2, y2, z2, l2, h, w2⟩ := wb1 (k := k) (src := rngD 0 x) (y0 := y1) (z0 := z1) (l0 := l1) (s := s1) ht ht2 hx hn w
      refine ⟨_, ?_, s2, g2, some (.fr (.int x)), y2, z2, l2, rfl, w2⟩
      have hr := rngK_n (ρ := [some (St2 s1), some (.fr (.int n)), some (.fr (.int thick)), some (.tb (tb n (gI g1))), some (.fr (.int x)), y1, z1, l1]) (n := x) (by omega) (by omega)
      rw [Int.toNat_natCast] at hr
      unfold l_law_web_0
      simp_arith [hr, h]) ⟨s, g, x0, y0, z0, l0, rfl, W⟩
  exact ⟨s', g', x', y', z', l', h, w⟩
theorem r_web {n : Nat} {thick : Int} (ht : 0 < thick) (ht2 : Sz 300 thick) (hn : n ≤ 1000) {s : Int × Int} : ∃ f t, Ev.run P (k + 2) 27 [St2 s, .fr (.int n), .fr (.int thick)] = some (.ret (.ow (rowsT n f)) [St2 t]) ∧ Met n f := by
  have hn' : n ≤ most := by unfold most; omega
  have hr0 : ∀ x : Option EV, rngK [some (St2 s), some (.fr (.int n)), some (.fr (.int thick)), none, x, none, none, none] (some [.int (n : Int)]) = some (.ok (rngD 0 n, none) [some (St2 s), some (.fr (.int n)), some (.fr (.int thick)), none, x, none, none, none]) := fun x => by
    rw [rngK_n (by omega) (by omega), Int.toNat_natCast]
  have l1 : ltL none (ltS P (Ev.run P (k + 1)) (.nm 4) c_law_web_0 [4]) (rngD 0 n) [] [some (St2 s), some (.fr (.int n)), some (.fr (.int thick)), none, none, none, none, none] = some (.ok (tb n (gI far)) [some (St2 s), some (.fr (.int n)), some (.fr (.int thick)), none, none, none, none, none]) := by
    rw [lt_R (fun x => (List.range n).map fun y => .int (far x y)) (fun x hx => ?_) hn']
    · rfl
    · have l2 : lcL none (lcS P (Ev.run P (k + 1)) (.nm 5) .nil c_law_web_1 [5]) (rngD 0 n) [] [some (St2 s), some (.fr (.int n)), some (.fr (.int thick)), none, some (.fr (.int x)), none, none, none] = some (.ok ((List.range n).map fun y => .int (far x y)) [some (St2 s), some (.fr (.int n)), some (.fr (.int thick)), none, some (.fr (.int x)), none, none, none]) := by
        refine lc_R _ (fun y hy => ?_) hn'
        unfold c_law_web_1 far
        by_cases c : x = y
        · have c' : decide ((x : Int) = y) = true := decide_eq_true (by omega)
          rw [if_pos c]
          simp_arith [c']
        · have c' : decide ((x : Int) = y) = false := decide_eq_false (by omega)
          rw [if_neg c]
          simp_arith [c']
      unfold c_law_web_0
      simp_arith [hr0, l2]
  obtain ⟨s', g', x', y', z', l', h, w⟩ := wb0 (k := k) (src := rngD 0 n) (x0 := none) (y0 := none) (z0 := none) (l0 := none) (s := s) ht ht2 hn (way_far (n := n))
  obtain ⟨f, M, hs⟩ := r_shortest (k := k) w hn
  refine ⟨f, s', ?_, M⟩
  have hr1 : rngK [some (St2 s), some (.fr (.int n)), some (.fr (.int thick)), some (.tb (tb n (gI far))), none, none, none, none] (some [.int (n : Int)]) = some (.ok (rngD 0 n, none) [some (St2 s), some (.fr (.int n)), some (.fr (.int thick)), some (.tb (tb n (gI far))), none, none, none, none]) := by
    rw [rngK_n (by omega) (by omega), Int.toNat_natCast]
  rw [run_on (F := f_law_web) rfl rfl]
  show outR [0] (execs P _ b_law_web [0] [some (.ow _), some (.fr _), some (.fr _), none, none, none, none, none]) = _
  unfold b_law_web
  simp_arith [hr0, l1, hr1, h, hs]
/-- draws without putting back -/
theorem draws {α : Type} {g : α → D} {N : Option EV} {n : Nat} {R : EnvD} {src : List D} (all : List α) (hn : n ≤ all.length) (hall : all.length ≤ 1000) {s : Int × Int} {k0 : Option EV} (nd : all.Nodup) :
    ∃ (s' : Int × Int) (left : List D) (found : List α) (k' : Option EV), forK P (Ev.run P (k + 1)) (.nm 4) l_law_order_of_0 [0] (src, none) (rngD 0 n) (some (St2 s) :: N :: some (.ow (all.map g)) :: some (.ow []) :: k0 :: R) = some (.nx (some (St2 s') :: N :: some (.ow left) :: some (.ow (found.map g)) :: k' :: R)) ∧ found.length = n ∧ found.Nodup ∧ ∀ x ∈ found, x ∈ all := by
  obtain ⟨ρ', h, s', left, found, k', rfl, hf, pm⟩ := for_R0 (P := P) (C := Ev.run P (k + 1)) (t := .nm 4) (b := l_law_order_of_0) (mu := [0]) (src := src) (n := n) (ρ := some (St2 s) :: N :: some (.ow (all.map g)) :: some (.ow []) :: k0 :: R)
    (fun i ρ => ∃ s' left found k', ρ = (some (St2 s') :: N :: some (.ow (List.map g left)) :: some (.ow (List.map g found)) :: k' :: R) ∧ found.length = i ∧ (found ++ left).Perm all)
    (fun i ρ hi ⟨s1, left, found, k1, e, hf, pm⟩ => by
      subst e
      have hl : found.length + left.length = all.length := by have := pm.length_eq; rwa [List.length_append] at this
      obtain ⟨v, s2, h2, b1, b2⟩ := t_take s1 (left.map g).length (by rw [List.length_map]; omega) (by unfold Sz; rw [List.length_map]; omega)
      obtain ⟨j, rfl⟩ := Int.eq_ofNat_of_zero_le b1
      have hj : j < left.length := by rw [List.length_map] at b2; omega
      have pk := fun ρ => popK_s (ρ := ρ) (i := 2) (xs := left.map g) (a := (j : Int)) (j := j) (x := g left[j]) (by rw [List.length_map]; unfold most; omega) (by rw [List.length_map]; exact ixD_nat hj) (by rw [List.getElem?_map, List.getElem?_eq_getElem hj]; rfl)
      have hlt : (List.map g found).length < most := by rw [List.length_map]; unfold most; omega
      have e1 : List.map g (found ++ [left[j]]) = List.map g found ++ [g left[j]] := by simp
      refine ⟨_, ?_, s2, left.eraseIdx j, found ++ [left[j]], some (.fr (.int i)), rfl, by simp [hf], ?_⟩
      · rw [e1, ← eraseIdx_map]
        unfold l_law_order_of_0
        have h2 := h2 k
        simp_arith [h2, pk, hlt]
      · refine List.Perm.trans ?_ pm
        rw [List.append_assoc]
        exact List.Perm.append_left found (pop_perm left j hj)) ⟨s, all, [], k0, rfl, rfl, by simp⟩
  have nd2 := pm.nodup_iff.mpr nd
  refine ⟨s', _, found, k', h, hf, (List.nodup_append.mp nd2).1, fun x hx => pm.mem_iff.mp (List.mem_append_left _ hx)⟩
theorem r_order {n : Nat} (hn : n ≤ 1000) {s : Int × Int} : ∃ (os : List Nat) (t : Int × Int), Ev.run P (k + 2) 25 [St2 s, .fr (.int n)] = some (.ret (.ow (os.map fun i : Nat => D.int (i : Int))) [St2 t]) ∧ os.length = n ∧ os.Nodup ∧ ∀ x ∈ os, x < n := by
  obtain ⟨s', left, os, k', h, h1, h2, h3⟩ := draws (k := k) (g := fun i : Nat => D.int (i : Int)) (N := some (.fr (.int n))) (n := n) (R := []) (src := rngD 0 n) (List.range n) (by simp) (by simpa using hn) (s := s) (k0 := none) List.nodup_range
  refine ⟨os, s', ?_, h1, h2, fun x hx => List.mem_range.mp (h3 x hx)⟩
  have hr : ∀ ρ, lrgK ρ (some [.int (n : Int)]) = some (.ok (.ow (rngD 0 n)) ρ) := fun ρ => by rw [lrgK_1 (by omega) (by omega), Int.toNat_natCast]
  have hr2 : ∀ ρ, rngK ρ (some [.int (n : Int)]) = some (.ok (rngD 0 n, none) ρ) := fun ρ => by rw [rngK_n (by omega) (by omega), Int.toNat_natCast]
  rw [← rngD_0] at h
  rw [run_on (F := f_law_order_of) rfl rfl]
  show outR [0] (execs P _ b_law_order_of [0] [some (.ow _), some (.fr _), none, none, none]) = _
  unfold b_law_order_of
  simp_arith [hr, hr2, h]
theorem r_renamed {n : Nat} {f : Nat → Nat → Int} {os : List Nat} (hn : n ≤ 1000) (hl : os.length ≤ 1000) (ho : ∀ x ∈ os, x < n) {v w : D} (hv : v = .lst (rowsT n f)) (hw : itemsOf w = some (os.map fun i : Nat => D.int (i : Int))) :
    Ev.run P (k + 1) 28 [.fr v, .fr w] = some (.ret (.ow (rowsT os.length fun i j => f (os.getD i 0) (os.getD j 0))) []) := by
  have ix1 : ∀ x, x < n → idxD v (.int (x : Int)) = some (.ok (.fr (rowT n f x))) := fun x hx => by
    rw [hv, ix_l, rowsT_len, ixD_nat hx, ixL_s]
    unfold rowsT
    rw [rg_get hx]; rfl
  have ix2 : ∀ x y, y < n → idxD (rowT n f x) (.int (y : Int)) = some (.ok (.fr (.int (f x y)))) := fun x y hy => by
    unfold rowT
    rw [ix_t, List.length_map, List.length_range, ixD_nat hy, ixL_s, rg_get hy]; rfl
  have l1 : ∀ x, x < n → lcL none (lcS P (Ev.run P k) (.nm 3) .nil c_law_renamed_1 [3]) (os.map fun i : Nat => D.int (i : Int)) [] [some (.fr v), some (.fr w), some (.fr (.int (x : Int))), none] = some (.ok (os.map fun y => .int (f x y)) [some (.fr v), some (.fr w), some (.fr (.int (x : Int))), none]) := fun x hx => by
    refine lcL_T _ (fun y hy => ?_) (by unfold most; omega)
    have i1 := ix1 x hx
    have i2 := ix2 x y (ho y hy)
    unfold c_law_renamed_1
    simp_arith [i1, i2]
  have l2 : lcL none (lcS P (Ev.run P k) (.nm 2) .nil c_law_renamed_0 [2]) (os.map fun i : Nat => D.int (i : Int)) [] [some (.fr v), some (.fr w), none, none] = some (.ok (os.map fun x => .tup (os.map fun y => .int (f x y))) [some (.fr v), some (.fr w), none, none]) := by
    refine lcL_T _ (fun x hx => ?_) (by unfold most; omega)
    have l := l1 x (ho x hx)
    unfold c_law_renamed_0
    simp_arith [hw, l]
  have e : (os.map fun x => D.tup (os.map fun y => .int (f x y))) = rowsT os.length fun i j => f (os.getD i 0) (os.getD j 0) := by
    rw [list_rg (d := 0)]
    unfold rowsT rowT
    refine List.map_congr_left fun i _ => ?_
    congr 1
    exact list_rg (d := 0)
  rw [run_on (F := f_law_renamed) rfl rfl]
  show outR [] (execs P _ b_law_renamed [] [some (.fr _), some (.fr _), none, none]) = _
  unfold b_law_renamed
  simp_arith [hw, l2, e]
theorem tr0 {n m : Nat} (hm : 1 ≤ m) (hn : m ≤ 1000) {s : Int × Int} {g : Nat → Nat → Int} {x0 z0 l0 : Option EV} {src : List D} (W : Way m 0 g) :
    ∃ s' g' x' z' l', forK P (Ev.run P (k + 1)) (.nm 4) l_law_of_tree_0 [0] (src, none) (rngD 1 (m - 1)) [some (St2 s), some (.fr (.int n)), some (.fr (.int m)), some (.tb (tb m (gI g))), x0, z0, l0, none] = some (.nx [some (St2 s'), some (.fr (.int n)), some (.fr (.int m)), some (.tb (tb m (gI g'))), x', z', l', none]) ∧ Way m 0 g' := by
  obtain ⟨ρ', h, s', g', x', z', l', rfl, w⟩ := for_R (P := P) (C := Ev.run P (k + 1)) (t := .nm 4) (b := l_law_of_tree_0) (mu := [0]) (src := src) (lo := 1) (n := m - 1) (ρ := [some (St2 s), some (.fr (.int n)), some (.fr (.int m)), some (.tb (tb m (gI g))), x0, z0, l0, none])
    (fun _ ρ => ∃ s' g' x' z' l', ρ = [some (St2 s'), some (.fr (.int n)), some (.fr (.int m)), some (.tb (tb m (gI g'))), x', z', l', none] ∧ Way m 0 g')
    (fun i ρ hi ⟨s1, g1, x1, z1, l1, e, w⟩ => by
      subst e
      rw [show (1 : Int) + (i : Int) = ((1 + i : Nat) : Int) by omega]
      generalize hx' : 1 + i = x
      have hx : x < m := by omega
      obtain ⟨v, s2, h2, b1, b2⟩ := t_take s1 x (by omega) (by unfold Sz; omega)
      obtain ⟨l, s3, h3, b3, b4⟩ := t_take s2 4 (by decide) (by unfold Sz; decide +kernel)
      obtain ⟨z, rfl⟩ := Int.eq_ofNat_of_zero_le b1
      have st1 := set2_I (g := g1) (x := x) (y := z) (v := 1 + l) hx (by omega)
      have st2 := set2_I (g := upI g1 x z (1 + l)) (x := z) (y := x) (v := 1 + l) (by omega) hx
      refine ⟨_, ?_, s3, upI (upI g1 x z (1 + l)) z x (1 + l), some (.fr (.int x)), some (.fr (.int z)), some (.fr (.int (1 + l))), rfl, way_up w (by omega) (by omega) (by omega)⟩
      have h2 := h2 k
      have h3 := h3 k
      unfold l_law_of_tree_0
      simp_arith [h2, h3, st1, st2]) ⟨s, g, x0, z0, l0, rfl, W⟩
  exact ⟨s', g', x', z', l', h, w⟩
theorem r_of_tree {n : Nat} (h1 : 1 ≤ n) (hn : n ≤ 500) {s : Int × Int} : ∃ f t, Ev.run P (k + 3) 29 [St2 s, .fr (.int n)] = some (.ret (.ow (rowsT n f)) [St2 t]) ∧ Met n f := by
  obtain ⟨v, s1, hv, b1, b2⟩ := t_take s 3 (by decide) (by unfold Sz; decide +kernel)
  obtain ⟨w, rfl⟩ := Int.eq_ofNat_of_zero_le b1
  have hv := hv (k + 1)
  have em : ((n : Int) + (w : Int)) = ((n + w : Nat) : Int) := by omega
  generalize hm : n + w = m at em
  have hm1 : m ≤ 1000 := by omega
  have hm' : m ≤ most := by unfold most; omega
  have hr0 : ∀ x : Option EV, rngK [some (St2 s1), some (.fr (.int n)), some (.fr (.int m)), none, x, none, none, none] (some [.int (m : Int)]) = some (.ok (rngD 0 m, none) [some (St2 s1), some (.fr (.int n)), some (.fr (.int m)), none, x, none, none, none]) := fun x => by
    rw [rngK_n (by omega) (by omega), Int.toNat_natCast]
  have l1 : ltL none (ltS P (Ev.run P (k + 2)) (.nm 4) c_law_of_tree_0 [4]) (rngD 0 m) [] [some (St2 s1), some (.fr (.int n)), some (.fr (.int m)), none, none, none, none, none] = some (.ok (tb m (gI far)) [some (St2 s1), some (.fr (.int n)), some (.fr (.int m)), none, none, none, none, none]) := by
    rw [lt_R (fun x => (List.range m).map fun y => .int (far x y)) (fun x hx => ?_) hm']
    · rfl
    · have l2 : lcL none (lcS P (Ev.run P (k + 2)) (.nm 7) .nil c_law_of_tree_1 [7]) (rngD 0 m) [] [some (St2 s1), some (.fr (.int n)), some (.fr (.int m)), none, some (.fr (.int x)), none, none, none] = some (.ok ((List.range m).map fun y => .int (far x y)) [some (St2 s1), some (.fr (.int n)), some (.fr (.int m)), none, some (.fr (.int x)), none, none, none]) := by
        refine lc_R _ (fun y hy => ?_) hm'
        unfold c_law_of_tree_1 far
        by_cases c : x = y
        · have c' : decide ((x : Int) = y) = true := decide_eq_true (by omega)
          rw [if_pos c]
          simp_arith [c']
        · have c' : decide ((x : Int) = y) = false := decide_eq_false (by omega)
          rw [if_neg c]
          simp_arith [c']
      unfold c_law_of_tree_0
      simp_arith [hr0, l2]
  obtain ⟨s', g', x', z', l', h, w'⟩ := tr0 (k := k + 1) (n := n) (src := rngD 1 (m - 1)) (x0 := none) (z0 := none) (l0 := none) (s := s1) (by omega) hm1 (way_far (n := m))
  obtain ⟨f, M, hs⟩ := r_shortest (k := k + 1) w' hm1
  obtain ⟨os, t, ho, ho1, ho2, ho3⟩ := r_order (k := k) (n := m) hm1 (s := s')
  have hr1 : rngK [some (St2 s1), some (.fr (.int n)), some (.fr (.int m)), some (.tb (tb m (gI far))), none, none, none, none] (some [.int 1, .int (m : Int)]) = some (.ok (rngD 1 (m - 1), none) [some (St2 s1), some (.fr (.int n)), some (.fr (.int m)), some (.tb (tb m (gI far))), none, none, none, none]) := by
    rw [rngK_ab (by omega) (by omega) (by omega) (by omega), show ((m : Int) - 1).toNat = m - 1 by omega]
  have hc : cut (os.map fun i : Nat => D.int (i : Int)) none (some (n : Int)) = (os.take n).map fun i : Nat => D.int (i : Int) := by
    rw [cut_map, cut_to (by omega)]
  have hr := r_renamed (k := k + 1) (n := m) (f := f) (os := os.take n) hm1 (by rw [List.length_take]; omega) (fun x hx => ho3 x (List.mem_of_mem_take hx)) (v := .lst (rowsT m f)) (w := .lst ((os.take n).map fun i : Nat => D.int (i : Int))) rfl rfl
  have hl : (os.take n).length = n := by rw [List.length_take]; omega
  refine ⟨fun i j => f ((os.take n).getD i 0) ((os.take n).getD j 0), t, ?_, M.take (fun i hi => ?_) fun i j hi hj e => ?_⟩
  · rw [hl] at hr
    rw [run_on (F := f_law_of_tree) rfl rfl]
    show outR [0] (execs P _ b_law_of_tree [0] [some (.ow _), some (.fr _), none, none, none, none, none, none]) = _
    unfold b_law_of_tree
    simp_arith [hv, em, hr0, l1, hr1, h, hs, ho, hc, hr]
  · refine ho3 _ (List.mem_of_mem_take (i := n) ?_)
    exact getD_mem (by omega)
  · exact nodup_getD (ho2.sublist (List.take_sublist n os)) (by omega) (by omega) e
def ab (i : Int) : Int := if i < 0 then -i else i
theorem ab_eq (i : Int) : ab i = i.natAbs := by unfold ab; split <;> omega
def gd (a b : Nat) : Int := ab ((a : Int).fdiv 4 - (b : Int).fdiv 4) + ab ((a : Int).fmod 4 - (b : Int).fmod 4)
theorem gd_met : Met 16 gd where
  zero := fun x _ => by unfold gd; rw [ab_eq, ab_eq]; omega
  sym := fun x y _ _ => by unfold gd; rw [ab_eq, ab_eq, ab_eq, ab_eq]; omega
  pos := fun x y hx hy c => by
    unfold gd
    rw [ab_eq, ab_eq, Int.fdiv_eq_ediv_of_nonneg _ (by decide), Int.fdiv_eq_ediv_of_nonneg _ (by decide), Int.fmod_eq_emod_of_nonneg _ (by decide), Int.fmod_eq_emod_of_nonneg _ (by decide)]
    omega
  tri := fun x y z _ _ _ => by
    unfold gd
    rw [ab_eq, ab_eq, ab_eq, ab_eq, ab_eq, ab_eq]
    omega
  le := fun x y hx hy => by
    unfold gd
    rw [ab_eq, ab_eq, Int.fdiv_eq_ediv_of_nonneg _ (by decide), Int.fdiv_eq_ediv_of_nonneg _ (by decide), Int.fmod_eq_emod_of_nonneg _ (by decide), Int.fmod_eq_emod_of_nonneg _ (by decide)]
    omega
abbrev pt4 (x : Nat) : D := .tup [.int ((x : Int).fdiv 4), .int ((x : Int).fmod 4)]
theorem r_grid {n : Nat} (hn : n ≤ 16) {s : Int × Int} : ∃ f t, Ev.run P (k + 2) 30 [St2 s, .fr (.int n)] = some (.ret (.ow (rowsT n f)) [St2 t]) ∧ Met n f := by
  have d4 : divOk 4 = true := by decide +kernel
  obtain ⟨t, left, os, k', h, h1, h2, h3⟩ := draws (k := k) (g := pt4) (N := some (.fr (.int n))) (n := n) (R := [none, none, none]) (src := rngD 0 n) (List.range 16) (by simp; omega) (by simp) (s := s) (k0 := none) List.nodup_range
  have ho : ∀ x ∈ os, x < 16 := fun x hx => List.mem_range.mp (h3 x hx)
  have l0 : lcL none (lcS P (Ev.run P (k + 1)) (.nm 5) .nil c_law_grid_0 [5]) (rngD 0 16) [] [some (St2 s), some (.fr (.int n)), none, none, none, none, none, none] = some (.ok ((List.range 16).map pt4) [some (St2 s), some (.fr (.int n)), none, none, none, none, none, none]) := by
    refine lc_R _ (fun x hx => ?_) (by unfold most; decide)
    unfold c_law_grid_0
    simp_arith [d4]
  have lin : ∀ a, lcL (some 3) (lcS P (Ev.run P (k + 1)) (.nm 7) .nil c_law_grid_2 [7]) (os.map pt4) [] [some (St2 t), some (.fr (.int n)), some (.ow left), some (.ow (os.map pt4)), k', none, some (.fr (pt4 a)), none] = some (.ok (os.map fun b => .int (gd a b)) [some (St2 t), some (.fr (.int n)), some (.ow left), some (.ow (os.map pt4)), k', none, some (.fr (pt4 a)), none]) := fun a => by
    refine lcL_T _ (fun b hb => ?_) (by unfold most; omega)
    unfold c_law_grid_2 gd ab
    simp_arith []
  have lout : lcL (some 3) (lcS P (Ev.run P (k + 1)) (.nm 6) .nil c_law_grid_1 [6]) (os.map pt4) [] [some (St2 t), some (.fr (.int n)), some (.ow left), some (.ow (os.map pt4)), k', none, none, none] = some (.ok (os.map fun a => .tup (os.map fun b => .int (gd a b))) [some (St2 t), some (.fr (.int n)), some (.ow left), some (.ow (os.map pt4)), k', none, none, none]) := by
    refine lcL_T _ (fun a ha => ?_) (by unfold most; omega)
    have l := lin a
    unfold c_law_grid_1
    simp_arith [l]
  have e : (os.map fun x => D.tup (os.map fun y => .int (gd x y))) = rowsT n fun i j => gd (os.getD i 0) (os.getD j 0) := by
    rw [list_rg (d := 0), h1]
    unfold rowsT rowT
    refine List.map_congr_left fun i _ => ?_
    refine congrArg D.tup ?_
    rw [list_rg (d := 0), h1]
  have hr16 : ∀ ρ, rngK ρ (some [.int 16]) = some (.ok (rngD 0 16, none) ρ) := fun ρ => rngK_n (n := 16) (by decide) (by decide)
  have hr : ∀ ρ, rngK ρ (some [.int (n : Int)]) = some (.ok (rngD 0 n, none) ρ) := fun ρ => by rw [rngK_n (by omega) (by omega), Int.toNat_natCast]
  refine ⟨fun i j => gd (os.getD i 0) (os.getD j 0), t, ?_, gd_met.take (fun i hi => ho _ (getD_mem (by omega))) fun i j hi hj e => nodup_getD h2 (by omega) (by omega) e⟩
  have h' : forK P (Ev.run P (k + 1)) (.nm 4) l_law_grid_0 [0] (rngD 0 n, none) (rngD 0 n) [some (St2 s), some (.fr (.int n)), some (.ow ((List.range 16).map pt4)), some (.ow []), none, none, none, none] = some (.nx [some (St2 t), some (.fr (.int n)), some (.ow left), some (.ow (os.map pt4)), k', none, none, none]) := h
  rw [run_on (F := f_law_grid) rfl rfl]
  show outR [0] (execs P _ b_law_grid [0] [some (.ow _), some (.fr _), none, none, none, none, none, none]) = _
  unfold b_law_grid
  simp_arith [hr16, l0, hr, h', lout, e]
/-- a band's table, so far -/
structure Bnd (low : Int) (n x y : Nat) (g : Nat → Nat → Int) : Prop where
  zero : ∀ i, i < n → g i i = 0
  sym : ∀ i j, i < n → j < n → g i j = g j i
  in_ : ∀ i j, i < n → j < i → (i < x ∨ (i = x ∧ j < y)) → low ≤ g i j ∧ g i j ≤ 2 * low
theorem bnd_up {low v : Int} {n x y : Nat} {g : Nat → Nat → Int} (B : Bnd low n x y g) (hy : y < x) (h0 : low ≤ v) (h1 : v ≤ 2 * low) : Bnd low n x (y + 1) (upI (upI g x y v) y x v) where
  zero := fun i hi => by unfold upI; rw [if_neg (by omega), if_neg (by omega)]; exact B.zero i hi
  sym := fun i j hi hj => by
    have := B.sym i j hi hj
    unfold upI
    by_cases c1 : i = y ∧ j = x
    · rw [if_pos c1, if_neg (by omega), if_pos (by omega)]
    · rw [if_neg c1]
      by_cases c2 : i = x ∧ j = y
      · rw [if_pos c2, if_pos (by omega)]
      · rw [if_neg c2, if_neg (by omega), if_neg (by omega)]; exact this
  in_ := fun i j hi hj h => by
    unfold upI
    by_cases c1 : i = y ∧ j = x
    · omega
    · rw [if_neg c1]
      by_cases c2 : i = x ∧ j = y
      · rw [if_pos c2]; exact ⟨h0, h1⟩
      · rw [if_neg c2]; exact B.in_ i j hi hj (by omega)
theorem bnd_met {low : Int} {n : Nat} {g : Nat → Nat → Int} (B : Bnd low n n 0 g) (h0 : 0 < low) (h1 : low ≤ 1000) : Met n g := by
  have key : ∀ i j, i < n → j < n → i ≠ j → low ≤ g i j ∧ g i j ≤ 2 * low := fun i j hi hj c => by
    by_cases d : j < i
    · exact B.in_ i j hi d (.inl hi)
    · rw [B.sym i j hi hj]; exact B.in_ j i hj (by omega) (.inl hj)
  have nn : ∀ i j, i < n → j < n → 0 ≤ g i j ∧ g i j ≤ 2 * low := fun i j hi hj => by
    by_cases c : i = j
    · subst c; rw [B.zero i hi]; omega
    · have := key i j hi hj c; omega
  exact ⟨B.zero, B.sym, fun i j hi hj c => by have := key i j hi hj c; omega, fun x y z hx hy hz => by
    by_cases c : x = y
    · subst c; rw [B.zero x hx]; omega
    · by_cases d : y = z
      · subst d; rw [B.zero y hy]; omega
      · have a := key x y hx hy c
        have b := key y z hy hz d
        have e := nn x z hx hz
        omega, fun i j hi hj => by have := nn i j hi hj; omega⟩
theorem bd1 {n x : Nat} {low : Int} (h0 : 0 < low) (h3 : low ≤ 1000) (hx : x < n) (hn : n ≤ 1000) {s : Int × Int} {g : Nat → Nat → Int} {y0 l0 : Option EV} {src : List D} (W : Bnd low n x 0 g) :
    ∃ s' g' y' l', forK P (Ev.run P (k + 1)) (.nm 5) l_law_band_1 [0] (src, none) (rngD 0 x) [some (St2 s), some (.fr (.int n)), some (.fr (.int low)), some (.tb (tb n (gI g))), some (.fr (.int x)), y0, l0, none] = some (.nx [some (St2 s'), some (.fr (.int n)), some (.fr (.int low)), some (.tb (tb n (gI g'))), some (.fr (.int x)), y', l', none]) ∧ Bnd low n (x + 1) 0 g' := by
  obtain ⟨ρ', h, s', g', y', l', rfl, w⟩ := for_R0 (P := P) (C := Ev.run P (k + 1)) (t := .nm 5) (b := l_law_band_1) (mu := [0]) (src := src) (n := x) (ρ := [some (St2 s), some (.fr (.int n)), some (.fr (.int low)), some (.tb (tb n (gI g))), some (.fr (.int x)), y0, l0, none])
    (fun y ρ => ∃ s' g' y' l', ρ = [some (St2 s'), some (.fr (.int n)), some (.fr (.int low)), some (.tb (tb n (gI g'))), some (.fr (.int x)), y', l', none] ∧ Bnd low n x y g')
    (fun y ρ hy ⟨s1, g1, y1, l1, e, w⟩ => by
      subst e
      obtain ⟨v, s2, h2, b1, b2⟩ := t_take s1 (low + 1) (by omega) (by unfold Sz; omega)
      have st1 := set2_I (g := g1) (x := x) (y := y) (v := low + v) hx (by omega)
      have st2 := set2_I (g := upI g1 x y (low + v)) (x := y) (y := x) (v := low + v) (by omega) hx
      refine ⟨_, ?_, s2, upI (upI g1 x y (low + v)) y x (low + v), some (.fr (.int y)), some (.fr (.int (low + v))), rfl, bnd_up w hy (by omega) (by omega)⟩
      unfold l_law_band_1
      have h2 := h2 k
      simp_arith [h2, st1, st2]) ⟨s, g, y0, l0, rfl, W⟩
  exact ⟨s', g', y', l', h, w.zero, w.sym, fun i j hi hj h => w.in_ i j hi hj (by omega)⟩
theorem bd0 {n : Nat} {low : Int} (h0 : 0 < low) (h3 : low ≤ 1000) (hn : n ≤ 1000) {s : Int × Int} {g : Nat → Nat → Int} {x0 y0 l0 : Option EV} {src : List D} (W : Bnd low n 0 0 g) :
    ∃ s' g' x' y' l', forK P (Ev.run P (k + 1)) (.nm 4) l_law_band_0 [0] (src, none) (rngD 0 n) [some (St2 s), some (.fr (.int n)), some (.fr (.int low)), some (.tb (tb n (gI g))), x0, y0, l0, none] = some (.nx [some (St2 s'), some (.fr (.int n)), some (.fr (.int low)), some (.tb (tb n (gI g'))), x', y', l', none]) ∧ Bnd low n n 0 g' := by
  obtain ⟨ρ', h, s', g', x', y', l', rfl, w⟩ := for_R0 (P := P) (C := Ev.run P (k + 1)) (t := .nm 4) (b := l_law_band_0) (mu := [0]) (src := src) (n := n) (ρ := [some (St2 s), some (.fr (.int n)), some (.fr (.int low)), some (.tb (tb n (gI g))), x0, y0, l0, none])
    (fun x ρ => ∃ s' g' x' y' l', ρ = [some (St2 s'), some (.fr (.int n)), some (.fr (.int low)), some (.tb (tb n (gI g'))), x', y', l', none] ∧ Bnd low n x 0 g')
    (fun x ρ hx ⟨s1, g1, x1, y1, l1, e, w⟩ => by
      subst e
      obtain ⟨s2, g2, y2, l2, h, w2⟩ := bd1 (k := k) (src := rngD 0 x) (y0 := y1) (l0 := l1) (s := s1) h0 h3 hx hn w
      refine ⟨_, ?_, s2, g2, some (.fr (.int x)), y2, l2, rfl, w2⟩
      have hr := rngK_n (ρ := [some (St2 s1), some (.fr (.int n)), some (.fr (.int low)), some (.tb (tb n (gI g1))), some (.fr (.int x)), y1, l1, none]) (n := x) (by omega) (by omega)
      rw [Int.toNat_natCast] at hr
      unfold l_law_band_0
      simp_arith [hr, h]) ⟨s, g, x0, y0, l0, rfl, W⟩
  exact ⟨s', g', x', y', l', h, w⟩
theorem r_band {n : Nat} (hn : n ≤ 1000) {s : Int × Int} : ∃ f t, Ev.run P (k + 2) 31 [St2 s, .fr (.int n)] = some (.ret (.ow (rowsT n f)) [St2 t]) ∧ Met n f := by
  have hn' : n ≤ most := by unfold most; omega
  obtain ⟨v, s1, hv, b1, b2⟩ := t_take s 3 (by decide) (by unfold Sz; decide +kernel)
  have hv := hv k
  have hr : ∀ ρ, rngK ρ (some [.int (n : Int)]) = some (.ok (rngD 0 n, none) ρ) := fun ρ => by rw [rngK_n (by omega) (by omega), Int.toNat_natCast]
  have l1 : ltL none (ltS P (Ev.run P (k + 1)) (.nm 4) c_law_band_0 [4]) (rngD 0 n) [] [some (St2 s1), some (.fr (.int n)), some (.fr (.int (1 + v))), none, none, none, none, none] = some (.ok (tb n (gI fun _ _ => 0)) [some (St2 s1), some (.fr (.int n)), some (.fr (.int (1 + v))), none, none, none, none, none]) := by
    rw [lt_R (fun x => (List.range n).map fun y => .int 0) (fun x hx => ?_) hn']
    · rfl
    · have l2 : lcL none (lcS P (Ev.run P (k + 1)) (.nm 5) .nil c_law_band_1 [5]) (rngD 0 n) [] [some (St2 s1), some (.fr (.int n)), some (.fr (.int (1 + v))), none, some (.fr (.int x)), none, none, none] = some (.ok ((List.range n).map fun y => .int 0) [some (St2 s1), some (.fr (.int n)), some (.fr (.int (1 + v))), none, some (.fr (.int x)), none, none, none]) := by
        refine lc_R _ (fun y hy => ?_) hn'
        unfold c_law_band_1
        simp_arith []
      unfold c_law_band_0
      simp_arith [hr, l2]
  obtain ⟨s', g', x', y', l', h, w⟩ := bd0 (k := k) (n := n) (low := 1 + v) (g := fun _ _ => 0) (src := rngD 0 n) (x0 := none) (y0 := none) (l0 := none) (s := s1) (by omega) (by omega) hn ⟨fun _ _ => rfl, fun _ _ _ _ => rfl, fun i j hi hj z => by omega⟩
  refine ⟨g', s', ?_, bnd_met w (by omega) (by omega)⟩
  have l3 : lcL none (lcS P (Ev.run P (k + 1)) (.nm 7) .nil c_law_band_2 [7]) ((tb n (gI g')).map .lst) [] [some (St2 s'), some (.fr (.int n)), some (.fr (.int (1 + v))), some (.fr (.lst ((tb n (gI g')).map .lst))), x', y', l', none] = some (.ok ((tb n (gI g')).map .tup) [some (St2 s'), some (.fr (.int n)), some (.fr (.int (1 + v))), some (.fr (.lst ((tb n (gI g')).map .lst))), x', y', l', none]) := by
    refine lcL_T (g := D.lst) D.tup (fun a ha => ?_) (by rw [tb_len]; exact hn')
    unfold c_law_band_2
    simp_arith []
  have e : (tb n (gI g')).map D.tup = rowsT n g' := by unfold tb rowsT rowT; rw [List.map_map]; rfl
  rw [run_on (F := f_law_band) rfl rfl]
  show outR [0] (execs P _ b_law_band [0] [some (.ow _), some (.fr _), none, none, none, none, none, none]) = _
  unfold b_law_band
  simp_arith [hv, hr, l1, h, l3, e]
/-! levels -/
def lv (h0 h1 h2 : Int) (p : Nat → Int × Int) (x y : Nat) : Int := if (p x).1 = (p y).1 then (if (p x).2 = (p y).2 then (if x = y then 0 else h0) else h1) else h2
theorem lv_met {n : Nat} {h0 h1 h2 : Int} {p : Nat → Int × Int} (a : 0 < h0) (b : h0 < h1) (c : h1 < h2) (d : h2 ≤ 1000) : Met n (lv h0 h1 h2 p) where
  zero := fun x _ => by unfold lv; simp
  sym := fun x y _ _ => by unfold lv; split <;> split <;> (try split) <;> (try split) <;> omega
  pos := fun x y _ _ e => by unfold lv; split <;> (try split) <;> (try split) <;> omega
  tri := fun x y z _ _ _ => by
    unfold lv
    by_cases e1 : (p x).1 = (p y).1 <;> by_cases e2 : (p y).1 = (p z).1 <;> by_cases e3 : (p x).1 = (p z).1 <;> by_cases e4 : (p x).2 = (p y).2 <;> by_cases e5 : (p y).2 = (p z).2 <;> by_cases e6 : (p x).2 = (p z).2 <;> by_cases e7 : x = y <;> by_cases e8 : y = z <;> by_cases e9 : x = z <;> simp only [e1, e2, e3, e4, e5, e6, e7, e8, e9, if_true, if_false, reduceIte] <;> omega
  le := fun x y _ _ => by unfold lv; split <;> (try split) <;> (try split) <;> omega
/-- no side is above both others -/
def Ultra (n : Nat) (u : Nat → Nat → Int) : Prop := ∀ x y z, x < n → y < n → z < n → u x z ≤ max (u x y) (u y z)
theorem lv_ultra {n : Nat} {h0 h1 h2 : Int} {p : Nat → Int × Int} (a : 0 < h0) (b : h0 < h1) (c : h1 < h2) : Ultra n (lv h0 h1 h2 p) := fun x y z _ _ _ => by
  unfold lv
  by_cases e1 : (p x).1 = (p y).1 <;> by_cases e2 : (p y).1 = (p z).1 <;> by_cases e3 : (p x).1 = (p z).1 <;> by_cases e4 : (p x).2 = (p y).2 <;> by_cases e5 : (p y).2 = (p z).2 <;> by_cases e6 : (p x).2 = (p z).2 <;> by_cases e7 : x = y <;> by_cases e8 : y = z <;> by_cases e9 : x = z <;> simp only [e1, e2, e3, e4, e5, e6, e7, e8, e9, if_true, if_false, reduceIte] <;> omega
abbrev wd (p : Nat → Int × Int) (i : Nat) : D := .tup [.int (p i).1, .int (p i).2, .int (i : Int)]
theorem lev2 {C : Orc} {n x : Nat} {h0 h1 h2 : Int} {p : Nat → Int × Int} {A B K0 W0 R0 t0 a0 : Option EV} {src : List D} (hn : n ≤ 1000) :
    ∃ t' a', forK P C (.nm 8) l_law_levels_2 [0] (src, none) ((List.range n).map (wd p)) [A, B, some (.ow [.int h0, .int h1, .int h2]), K0, W0, R0, some (.fr (wd p x)), some (.ow []), t0, none, a0] = some (.nx [A, B, some (.ow [.int h0, .int h1, .int h2]), K0, W0, R0, some (.fr (wd p x)), some (.ow ((List.range n).map fun y => .int (lv h0 h1 h2 p x y))), t', none, a']) := by
  obtain ⟨ρ', h, t', a', rfl⟩ := for_G (P := P) (C := C) (t := .nm 8) (b := l_law_levels_2) (mu := [0]) (src := src) (g := wd p) (n := n) (ρ := [A, B, some (.ow [.int h0, .int h1, .int h2]), K0, W0, R0, some (.fr (wd p x)), some (.ow []), t0, none, a0])
    (fun y ρ => ∃ t' a', ρ = [A, B, some (.ow [.int h0, .int h1, .int h2]), K0, W0, R0, some (.fr (wd p x)), some (.ow ((List.range y).map fun y => .int (lv h0 h1 h2 p x y))), t', none, a'])
    (fun y ρ hy ⟨t1, a1, e⟩ => by
      subst e
      have e1 : (List.range (y + 1)).map (fun y => D.int (lv h0 h1 h2 p x y)) = (List.range y).map (fun y => D.int (lv h0 h1 h2 p x y)) ++ [.int (lv h0 h1 h2 p x y)] := by rw [List.range_succ, List.map_append]; rfl
      have hlt : ((List.range y).map (fun y => D.int (lv h0 h1 h2 p x y))).length < most := by rw [List.length_map, List.length_range]; unfold most; omega
      have hr3 : ∀ ρ, rngK ρ (some [.int 3]) = some (.ok ([.int 0, .int 1, .int 2], none) ρ) := fun _ => rfl
      rw [e1]
      generalize hrow : (List.range y).map (fun y => D.int (lv h0 h1 h2 p x y)) = row at hlt ⊢
      have key : ∃ a', turn P C (.nm 8) l_law_levels_2 [0] (wd p y) [A, B, some (.ow [.int h0, .int h1, .int h2]), K0, W0, R0, some (.fr (wd p x)), some (.ow row), t1, none, a1] = some (.nx [A, B, some (.ow [.int h0, .int h1, .int h2]), K0, W0, R0, some (.fr (wd p x)), some (.ow (row ++ [.int (lv h0 h1 h2 p x y)])), some (.fr (wd p y)), none, a']) := by
        unfold l_law_levels_2 c_law_levels_1i c_law_levels_1 lv
        by_cases c1 : (p x).1 = (p y).1 <;> by_cases c2 : (p x).2 = (p y).2 <;> by_cases c3 : x = y
        · refine ⟨some (.fr (.lst [])), ?_⟩
          rw [if_pos c1, if_pos c2, if_pos c3]
          have d3 : decide ((x : Int) = y) = true := decide_eq_true (by omega)
          simp_arith [hr3, hlt, decide_eq_true c1, decide_eq_true c2, d3]
        · refine ⟨some (.fr (.lst [.int 2])), ?_⟩
          rw [if_pos c1, if_pos c2, if_neg c3]
          have d3 : decide ((x : Int) = y) = false := decide_eq_false (by omega)
          simp_arith [hr3, hlt, decide_eq_true c1, decide_eq_true c2, d3]
        · refine ⟨some (.fr (.lst [.int 1])), ?_⟩
          rw [if_pos c1, if_neg c2]
          have d3 : decide ((x : Int) = y) = true := decide_eq_true (by omega)
          simp_arith [hr3, hlt, decide_eq_true c1, decide_eq_false c2, d3]
        · refine ⟨some (.fr (.lst [.int 1, .int 2])), ?_⟩
          rw [if_pos c1, if_neg c2]
          have d3 : decide ((x : Int) = y) = false := decide_eq_false (by omega)
          simp_arith [hr3, hlt, decide_eq_true c1, decide_eq_false c2, d3]
        · refine ⟨some (.fr (.lst [.int 0])), ?_⟩
          rw [if_neg c1]
          have d3 : decide ((x : Int) = y) = true := decide_eq_true (by omega)
          simp_arith [hr3, hlt, decide_eq_false c1, decide_eq_true c2, d3]
        · refine ⟨some (.fr (.lst [.int 0, .int 2])), ?_⟩
          rw [if_neg c1]
          have d3 : decide ((x : Int) = y) = false := decide_eq_false (by omega)
          simp_arith [hr3, hlt, decide_eq_false c1, decide_eq_true c2, d3]
        · refine ⟨some (.fr (.lst [.int 0, .int 1])), ?_⟩
          rw [if_neg c1]
          have d3 : decide ((x : Int) = y) = true := decide_eq_true (by omega)
          simp_arith [hr3, hlt, decide_eq_false c1, decide_eq_false c2, d3]
        · refine ⟨some (.fr (.lst [.int 0, .int 1, .int 2])), ?_⟩
          rw [if_neg c1]
          have d3 : decide ((x : Int) = y) = false := decide_eq_false (by omega)
          simp_arith [hr3, hlt, decide_eq_false c1, decide_eq_false c2, d3]
      obtain ⟨a2, hk⟩ := key
      exact ⟨_, hk, some (.fr (wd p y)), a2, rfl⟩) ⟨t0, a0, rfl⟩
  exact ⟨t', a', h⟩
theorem lev1 {C : Orc} {n : Nat} {h0 h1 h2 : Int} {p : Nat → Int × Int} {A B K0 o0 r0 t0 a0 : Option EV} {src : List D} (hn : n ≤ 1000) :
    ∃ o' r' t' a', forK P C (.nm 6) l_law_levels_1 [0] (src, none) ((List.range n).map (wd p)) [A, B, some (.ow [.int h0, .int h1, .int h2]), K0, some (.fr (.lst ((List.range n).map (wd p)))), some (.ow []), o0, r0, t0, none, a0] = some (.nx [A, B, some (.ow [.int h0, .int h1, .int h2]), K0, some (.fr (.lst ((List.range n).map (wd p)))), some (.ow (rowsT n (lv h0 h1 h2 p))), o', r', t', none, a']) := by
  obtain ⟨ρ', h, o', r', t', a', rfl⟩ := for_G (P := P) (C := C) (t := .nm 6) (b := l_law_levels_1) (mu := [0]) (src := src) (g := wd p) (n := n) (ρ := [A, B, some (.ow [.int h0, .int h1, .int h2]), K0, some (.fr (.lst ((List.range n).map (wd p)))), some (.ow []), o0, r0, t0, none, a0])
    (fun x ρ => ∃ o' r' t' a', ρ = [A, B, some (.ow [.int h0, .int h1, .int h2]), K0, some (.fr (.lst ((List.range n).map (wd p)))), some (.ow ((List.range x).map (rowT n (lv h0 h1 h2 p)))), o', r', t', none, a'])
    (fun x ρ hx ⟨o1, r1, t1, a1, e⟩ => by
      subst e
      obtain ⟨t2, a2, h⟩ := lev2 (C := C) (n := n) (x := x) (h0 := h0) (h1 := h1) (h2 := h2) (p := p) (A := A) (B := B) (K0 := K0) (W0 := some (.fr (.lst ((List.range n).map (wd p))))) (R0 := some (.ow ((List.range x).map (rowT n (lv h0 h1 h2 p))))) (t0 := t1) (a0 := a1) (src := (List.range n).map (wd p)) hn
      have e1 : (List.range (x + 1)).map (rowT n (lv h0 h1 h2 p)) = (List.range x).map (rowT n (lv h0 h1 h2 p)) ++ [.tup ((List.range n).map fun y => .int (lv h0 h1 h2 p x y))] := by rw [List.range_succ, List.map_append]; rfl
      have hlt : ((List.range x).map (rowT n (lv h0 h1 h2 p))).length < most := by rw [List.length_map, List.length_range]; unfold most; omega
      refine ⟨_, ?_, some (.fr (wd p x)), some (.ow ((List.range n).map fun y => .int (lv h0 h1 h2 p x y))), t2, a2, rfl⟩
      rw [e1]
      unfold l_law_levels_1
      simp_arith [h, hlt]) ⟨o0, r0, t0, a0, rfl⟩
  exact ⟨o', r', t', a', h⟩
theorem r_levelsU {n : Nat} (hn : n ≤ 1000) {s : Int × Int} : ∃ f t, Ev.run P (k + 2) 32 [St2 s, .fr (.int n)] = some (.ret (.ow (rowsT n f)) [St2 t]) ∧ Met n f ∧ Ultra n f := by
  have hn' : n ≤ most := by unfold most; omega
  obtain ⟨v0, s1, hv0, b1, b2⟩ := t_take s 2 (by decide) (by unfold Sz; decide +kernel)
  obtain ⟨v1, s2, hv1, b3, b4⟩ := t_take s1 3 (by decide) (by unfold Sz; decide +kernel)
  obtain ⟨v2, s3, hv2, b5, b6⟩ := t_take s2 3 (by decide) (by unfold Sz; decide +kernel)
  have hv0 := hv0 k
  have hv1 := hv1 k
  have hv2 := hv2 k
  have hr2 : ∀ ρ, rngK ρ (some [.int 2]) = some (.ok ([.int 0, .int 1], none) ρ) := fun _ => rfl
  have hr : ∀ ρ, rngK ρ (some [.int (n : Int)]) = some (.ok (rngD 0 n, none) ρ) := fun ρ => by rw [rngK_n (by omega) (by omega), Int.toNat_natCast]
  obtain ⟨p, ρ', lc, ⟨s4, rfl⟩, _⟩ := lc_RQ (β := Int × Int) (g := fun i (q : Int × Int) => D.tup [.int q.1, .int q.2, .int (i : Int)]) (step := lcS P (Ev.run P (k + 1)) (.nm 9) .nil c_law_levels_0 [9]) (n := n) (ρ := [some (St2 s3), some (.fr (.int n)), some (.ow [.int (1 + v0), .int (1 + v0 + 1 + v1), .int (1 + v0 + 1 + v1 + 1 + v2)]), some (.fr (.int 1)), none, none, none, none, none, none, none])
    (fun ρ => ∃ s', ρ = [some (St2 s'), some (.fr (.int n)), some (.ow [.int (1 + v0), .int (1 + v0 + 1 + v1), .int (1 + v0 + 1 + v1 + 1 + v2)]), some (.fr (.int 1)), none, none, none, none, none, none, none]) (fun _ _ => True)
    (fun i hi ρ ⟨s', e⟩ => by
      subst e
      obtain ⟨u0, t1, hu0, _, _⟩ := t_take s' 2 (by decide) (by unfold Sz; decide +kernel)
      obtain ⟨u1, t2, hu1, _, _⟩ := t_take t1 2 (by decide) (by unfold Sz; decide +kernel)
      have hu0 := hu0 k
      have hu1 := hu1 k
      refine ⟨(u0, u1), _, ?_, ⟨t2, rfl⟩, trivial⟩
      unfold c_law_levels_0
      simp_arith [hu0, hu1]) hn' ⟨s3, rfl⟩
  obtain ⟨o', r', t', a', h⟩ := lev1 (C := Ev.run P (k + 1)) (n := n) (h0 := 1 + v0) (h1 := 1 + v0 + 1 + v1) (h2 := 1 + v0 + 1 + v1 + 1 + v2) (p := p) (A := some (St2 s4)) (B := some (.fr (.int n))) (K0 := some (.fr (.int 1))) (o0 := none) (r0 := none) (t0 := none) (a0 := none) (src := (List.range n).map (wd p)) hn
  refine ⟨_, s4, ?_, lv_met (n := n) (h0 := 1 + v0) (h1 := 1 + v0 + 1 + v1) (h2 := 1 + v0 + 1 + v1 + 1 + v2) (p := p) (by omega) (by omega) (by omega) (by omega), lv_ultra (by omega) (by omega) (by omega)⟩
  rw [run_on (F := f_law_levels) rfl rfl]
  show outR [0] (execs P _ b_law_levels [0] [some (.ow _), some (.fr _), none, none, none, none, none, none, none, none, none]) = _
  unfold b_law_levels l_law_levels_0
  simp_arith [hv0, hv1, hv2, hr2, hr, lc, h, most]
theorem r_levels {n : Nat} (hn : n ≤ 1000) {s : Int × Int} : ∃ f t, Ev.run P (k + 2) 32 [St2 s, .fr (.int n)] = some (.ret (.ow (rowsT n f)) [St2 t]) ∧ Met n f := by
  obtain ⟨f, t, h, M, _⟩ := r_levelsU (k := k) hn (s := s)
  exact ⟨f, t, h, M⟩

theorem r_rows {mo : Nat} (h1 : 1 ≤ mo) (h2 : mo ≤ 16) {s : Int × Int} : ∃ n f t, Ev.run P (k + 4) 33 [St2 s, .fr (.int mo)] = some (.ret (.ow (rowsT n f)) [St2 t]) ∧ Met n f ∧ 1 ≤ n ∧ n ≤ mo := by
  obtain ⟨v, s1, hv, b1, b2⟩ := t_take s mo (by omega) (by unfold Sz; omega)
  obtain ⟨w, s2, hw, b3, b4⟩ := t_take s1 6 (by decide) (by unfold Sz; decide +kernel)
  have hv := hv (k + 2)
  have hw := hw (k + 2)
  obtain ⟨n0, rfl⟩ := Int.eq_ofNat_of_zero_le b1
  have en : (1 : Int) + (n0 : Int) = ((1 + n0 : Nat) : Int) := by omega
  generalize hn : 1 + n0 = n at en
  have key : ∃ f t, Ev.run P (k + 4) 33 [St2 s, .fr (.int mo)] = some (.ret (.ow (rowsT n f)) [St2 t]) ∧ Met n f := by
    have go : ∀ {f t}, Met n f → Ev.run P (k + 4) 33 [St2 s, .fr (.int mo)] = some (.ret (.ow (rowsT n f)) [St2 t]) → ∃ f t, Ev.run P (k + 4) 33 [St2 s, .fr (.int mo)] = some (.ret (.ow (rowsT n f)) [St2 t]) ∧ Met n f := fun {f t} M e => ⟨f, t, e, M⟩
    by_cases c0 : w = 0
    · obtain ⟨f, t, h, M⟩ := r_web (k := k + 1) (n := n) (thick := 2) (by decide) (by unfold Sz; decide +kernel) (by omega) (s := s2)
      refine go M (t := t) ?_
      rw [run_on (F := f_law_rows) rfl rfl]
      show outR [0] (execs P _ b_law_rows [0] [some (.ow _), some (.fr _), none, none]) = _
      unfold b_law_rows
      simp_arith [hv, hw, en, h, decide_eq_true c0]
    · by_cases c1 : w = 1
      · obtain ⟨f, t, h, M⟩ := r_web (k := k + 1) (n := n) (thick := 5) (by decide) (by unfold Sz; decide +kernel) (by omega) (s := s2)
        refine go M (t := t) ?_
        rw [run_on (F := f_law_rows) rfl rfl]
        show outR [0] (execs P _ b_law_rows [0] [some (.ow _), some (.fr _), none, none]) = _
        unfold b_law_rows
        simp_arith [hv, hw, en, h, decide_eq_false c0, decide_eq_true c1]
      · by_cases c2 : w = 2
        · obtain ⟨f, t, h, M⟩ := r_of_tree (k := k) (n := n) (by omega) (by omega) (s := s2)
          refine go M (t := t) ?_
          rw [run_on (F := f_law_rows) rfl rfl]
          show outR [0] (execs P _ b_law_rows [0] [some (.ow _), some (.fr _), none, none]) = _
          unfold b_law_rows
          simp_arith [hv, hw, en, h, decide_eq_false c0, decide_eq_false c1, decide_eq_true c2]
        · by_cases c3 : w = 3
          · obtain ⟨f, t, h, M⟩ := r_grid (k := k + 1) (n := n) (by omega) (s := s2)
            refine go M (t := t) ?_
            rw [run_on (F := f_law_rows) rfl rfl]
            show outR [0] (execs P _ b_law_rows [0] [some (.ow _), some (.fr _), none, none]) = _
            unfold b_law_rows
            simp_arith [hv, hw, en, h, decide_eq_false c0, decide_eq_false c1, decide_eq_false c2, decide_eq_true c3]
          · by_cases c4 : w = 4
            · obtain ⟨f, t, h, M⟩ := r_band (k := k + 1) (n := n) (by omega) (s := s2)
              refine go M (t := t) ?_
              rw [run_on (F := f_law_rows) rfl rfl]
              show outR [0] (execs P _ b_law_rows [0] [some (.ow _), some (.fr _), none, none]) = _
              unfold b_law_rows
              simp_arith [hv, hw, en, h, decide_eq_false c0, decide_eq_false c1, decide_eq_false c2, decide_eq_false c3, decide_eq_true c4]
            · obtain ⟨f, t, h, M⟩ := r_levels (k := k + 1) (n := n) (by omega) (s := s2)
              refine go M (t := t) ?_
              rw [run_on (F := f_law_rows) rfl rfl]
              show outR [0] (execs P _ b_law_rows [0] [some (.ow _), some (.fr _), none, none]) = _
              unfold b_law_rows
              simp_arith [hv, hw, en, h, decide_eq_false c0, decide_eq_false c1, decide_eq_false c2, decide_eq_false c3, decide_eq_false c4]
  obtain ⟨f, t, e, M⟩ := key
  exact ⟨n, f, t, e, M, by omega, by omega⟩
abbrev tI (xs : List Nat) : D := .tup (xs.map fun u : Nat => D.int (u : Int))
theorem ixI {im : List Nat} {z : Nat} (h : z < im.length) : idxD (tI im) (.int (z : Int)) = some (.ok (.fr (.int (im.getD z 0 : Nat)))) := ixM_t (g := fun u : Nat => D.int (u : Int)) (d := 0) h
theorem tI_snoc {im : List Nat} {y : Nat} : tI (im ++ [y]) = .tup ((im.map fun u : Nat => D.int (u : Int)) ++ [D.int (y : Int)]) := congrArg D.tup (by rw [List.map_append]; rfl)
theorem tI_len {im : List Nat} : lenD (tI im) = some (.ok (.fr (.int (im.length : Nat)))) := by rw [len_t, List.length_map]
theorem od_tI {xs : List Nat} (h : xs.length ≤ most) : Od 1 (tI xs) := od_tup (by rw [List.length_map]; exact h) fun z hz => by
  obtain ⟨y, _, rfl⟩ := List.mem_map.mp hz
  exact od_int
theorem fl_len {n : Nat} {c : Nat → Bool} (hn : n ≤ 1000) : ((List.range n).filter c).length ≤ most := by
  have := List.length_filter_le c (List.range n)
  rw [List.length_range] at this
  unfold most; omega
def btQ (d : Nat → Nat → Rat) (x y z : Nat) : Bool := decide (d x y + d y z = d x z)
/-- how far the points are from x, at most -/
def eccQ (n : Nat) (d : Nat → Nat → Rat) (x : Nat) : Rat := ((List.range n).map (d x)).foldl mxQ (d x 0)
theorem rg_cons {α : Type} {n : Nat} {g : Nat → α} (h : 1 ≤ n) : ∃ rs, (List.range n).map g = g 0 :: rs := by
  obtain ⟨k, rfl⟩ : ∃ k, n = k + 1 := ⟨n - 1, by omega⟩
  exact ⟨_, by rw [List.range_succ_eq_map, List.map_cons]⟩
theorem ecc_max {n x : Nat} {d : Nat → Nat → Rat} (h : 1 ≤ n) : IsMax (eccQ n d x) ((List.range n).map (d x)) := by
  obtain ⟨rs, e⟩ := rg_cons (g := d x) h
  unfold eccQ
  rw [e]
  exact mx_max
theorem ecc_sq {m n x : Nat} {d : Nat → Nat → Rat} (M : MetQ m n d) (h : 1 ≤ n) (hx : x < n) : Sq m (eccQ n d x) := by
  obtain ⟨y, hy, e⟩ := List.mem_map.mp (ecc_max (x := x) (d := d) h).1
  rw [← e]
  exact M.sq x y hx (List.mem_range.mp hy)
/-- how far a point's row goes -/
abbrev farI (n : Nat) (f : Nat → Nat → Int) (x : Nat) : Int := mxI ((List.range n).map (f x))
theorem far_ecc {n : Nat} {f : Nat → Nat → Int} {a b : Int} {x : Nat} (h1 : 1 ≤ n) (ha : 0 < a) (hb : 0 < b) : eccQ n (fun x y => scl a b (f x y)) x = scl a b (farI n f x) := by
  refine max_uniq (ecc_max h1) ?_
  obtain ⟨⟨y, hy, e⟩, h⟩ := mx_rg (n := n) (g := f x) h1
  refine ⟨List.mem_map.mpr ⟨y, List.mem_range.mpr hy, by rw [farI, e]⟩, fun q hq => ?_⟩
  obtain ⟨z, hz, rfl⟩ := List.mem_map.mp hq
  exact (scl_le ha hb).mpr (h z (List.mem_range.mp hz))
theorem best_row {n : Nat} {f : Nat → Nat → Int} {x : Nat} (h1 : 1 ≤ n) (hn : n ≤ 1000) : bestD maxI (rowT n f x) = some (.ok (.fr (.int (farI n f x)))) := best_mx (is := (List.range n).map (f x)) (by unfold rowT; rw [List.map_map]; rfl) (rg_ne h1) (by simp; unfold most; omega)
theorem scl_max {n : Nat} {g : Nat → Int} {a b : Int} {r : Rat} (h1 : 1 ≤ n) (ha : 0 < a) (hb : 0 < b) (h : IsMax r ((List.range n).map fun x => scl a b (g x))) : r = scl a b (mxI ((List.range n).map g)) := by
  refine max_uniq h ?_
  obtain ⟨⟨y, hy, e⟩, h⟩ := mx_rg (n := n) (g := g) h1
  refine ⟨List.mem_map.mpr ⟨y, List.mem_range.mpr hy, by rw [e]⟩, fun q hq => ?_⟩
  obtain ⟨z, hz, rfl⟩ := List.mem_map.mp hq
  exact (scl_le ha hb).mpr (h z (List.mem_range.mp hz))
theorem scl_min {n : Nat} {g : Nat → Int} {a b : Int} {r : Rat} (h1 : 1 ≤ n) (ha : 0 < a) (hb : 0 < b) (h : IsMin r ((List.range n).map fun x => scl a b (g x))) : r = scl a b (mnI ((List.range n).map g)) := by
  refine min_uniq h ?_
  obtain ⟨⟨y, hy, e⟩, h⟩ := mn_rg (n := n) (g := g) h1
  refine ⟨List.mem_map.mpr ⟨y, List.mem_range.mpr hy, by rw [e]⟩, fun q hq => ?_⟩
  obtain ⟨z, hz, rfl⟩ := List.mem_map.mp hq
  exact (scl_le ha hb).mpr (h z (List.mem_range.mp hz))
/-- least greatest steps over the first points -/
def mmI (f : Nat → Nat → Int) : Nat → Nat → Nat → Int
  | 0 => f
  | k + 1 => fun x y => min (mmI f k x y) (max (mmI f k x k) (mmI f k k y))
theorem mm_ok {n : Nat} {f : Nat → Nat → Int} (M : Met n f) : ∀ k, k ≤ n → (∀ x, x < n → mmI f k x x = 0) ∧ (∀ x y, x < n → y < n → 0 ≤ mmI f k x y ∧ mmI f k x y ≤ f x y ∧ mmI f k x y = mmI f k y x ∧ (x ≠ y → 0 < mmI f k x y))
  | 0, _ => ⟨M.zero, fun x y hx hy => ⟨M.nn hx hy, Int.le_refl _, M.sym x y hx hy, M.pos x y hx hy⟩⟩
  | k + 1, hk => by
    obtain ⟨z, h⟩ := mm_ok M k (by omega)
    have hk' : k < n := by omega
    refine ⟨fun x hx => ?_, fun x y hx hy => ?_⟩
    · have := z x hx
      have := h x k hx hk'
      have := h k x hk' hx
      show min (mmI f k x x) (max (mmI f k x k) (mmI f k k x)) = 0
      omega
    · have h1 := h x y hx hy
      have h2 := h x k hx hk'
      have h3 := h k y hk' hy
      have h4 := h y x hy hx
      have h5 := h y k hy hk'
      have h6 := h k x hk' hx
      show 0 ≤ min (mmI f k x y) (max (mmI f k x k) (mmI f k k y)) ∧ min (mmI f k x y) (max (mmI f k x k) (mmI f k k y)) ≤ f x y ∧ min (mmI f k x y) (max (mmI f k x k) (mmI f k k y)) = min (mmI f k y x) (max (mmI f k y k) (mmI f k k x)) ∧ (x ≠ y → 0 < min (mmI f k x y) (max (mmI f k x k) (mmI f k k y)))
      refine ⟨by omega, by omega, by omega, fun e => ?_⟩
      have p1 := h1.2.2.2 e
      by_cases c : x = k
      · have := h3.2.2.2 (by omega)
        omega
      · have := h2.2.2.2 c
        omega
theorem mm_ultra {n : Nat} {f : Nat → Nat → Int} (M : Met n f) : ∀ k, k ≤ n → ∀ j, j < k → ∀ x y, x < n → y < n → mmI f k x y ≤ max (mmI f k x j) (mmI f k j y)
  | 0, _, j, hj, _, _, _, _ => absurd hj (Nat.not_lt_zero j)
  | k + 1, hk, j, hj, x, y, hx, hy => by
    obtain ⟨z, h⟩ := mm_ok M k (by omega)
    have hk' : k < n := by omega
    have hj' : j < n := by omega
    show min (mmI f k x y) (max (mmI f k x k) (mmI f k k y)) ≤ max (min (mmI f k x j) (max (mmI f k x k) (mmI f k k j))) (min (mmI f k j y) (max (mmI f k j k) (mmI f k k y)))
    by_cases c : j = k
    · subst c
      have := z j hj'
      have := h x j hx hj'
      have := h j y hj' hy
      omega
    · have ih := mm_ultra M k (by omega) j (by omega)
      have := ih x y hx hy
      have := ih x k hx hk'
      have := ih k y hk' hy
      have := (h j k hj' hk').2.2.1
      omega
theorem mm_most {n : Nat} {f u : Nat → Nat → Int} (U : Ultra n u) (h : ∀ x y, x < n → y < n → u x y ≤ f x y) : ∀ k, k ≤ n → ∀ x y, x < n → y < n → u x y ≤ mmI f k x y
  | 0, _, x, y, hx, hy => h x y hx hy
  | k + 1, hk, x, y, hx, hy => by
    have ih := mm_most U h k (by omega)
    have hk' : k < n := by omega
    have := ih x y hx hy
    have := ih x k hx hk'
    have := ih k y hk' hy
    have := U x k y hx hk' hy
    show u x y ≤ min (mmI f k x y) (max (mmI f k x k) (mmI f k k y))
    omega
theorem mm_cut {n : Nat} {f : Nat → Nat → Int} {A : Nat → Prop} {t : Int} (h : ∀ x y, x < n → y < n → A x → ¬A y → t < f x y) : ∀ k, k ≤ n → ∀ x y, x < n → y < n → A x → ¬A y → t < mmI f k x y
  | 0, _, x, y, hx, hy, a, b => h x y hx hy a b
  | k + 1, hk, x, y, hx, hy, a, b => by
    have ih := mm_cut h k (by omega)
    have hk' : k < n := by omega
    have h1 := ih x y hx hy a b
    show t < min (mmI f k x y) (max (mmI f k x k) (mmI f k k y))
    by_cases c : A k
    · have := ih k y hk' hy c b
      omega
    · have := ih x k hx hk' a c
      omega
theorem mm_Ultra {n : Nat} {f : Nat → Nat → Int} (M : Met n f) : Ultra n (mmI f n) := fun x y z hx hy hz => mm_ultra M n (Nat.le_refl _) y hy x z hx hz
/-- steps over the points left, as the law walks them -/
def stI (f : Nat → Nat → Int) : Nat → List Nat → Nat → Nat → Int
  | 0, _, x, y => f x y
  | m + 1, L, x, y => L.foldl (fun b z => if z = y then b else min b (max (f x z) (stI f m (L.filter fun w => !decide (w = z)) z y))) (f x y)
theorem fold_le {g : Nat → Int} {y : Nat} {t : Int} : ∀ {L : List Nat} {b : Int}, L.foldl (fun b z => if z = y then b else min b (g z)) b ≤ t ↔ b ≤ t ∨ ∃ z ∈ L, z ≠ y ∧ g z ≤ t
  | [], b => by simp
  | z :: L, b => by
    rw [List.foldl_cons, fold_le]
    by_cases c : z = y
    · rw [if_pos c]
      refine or_congr_right ⟨fun ⟨w, h, e⟩ => ⟨w, List.mem_cons_of_mem _ h, e⟩, fun ⟨w, h, e1, e2⟩ => ?_⟩
      rcases List.mem_cons.mp h with rfl | h
      · exact absurd c e1
      · exact ⟨w, h, e1, e2⟩
    · rw [if_neg c]
      constructor
      · rintro (h | ⟨w, h, e⟩)
        · by_cases d : b ≤ t
          · exact .inl d
          · exact .inr ⟨z, List.mem_cons_self, c, by omega⟩
        · exact .inr ⟨w, List.mem_cons_of_mem _ h, e⟩
      · rintro (h | ⟨w, h, e1, e2⟩)
        · exact .inl (by omega)
        · rcases List.mem_cons.mp h with rfl | h
          · exact .inl (by omega)
          · exact .inr ⟨w, h, e1, e2⟩
theorem st_le {f : Nat → Nat → Int} {m : Nat} {L : List Nat} {x y : Nat} {t : Int} : stI f (m + 1) L x y ≤ t ↔ f x y ≤ t ∨ ∃ z ∈ L, z ≠ y ∧ f x z ≤ t ∧ stI f m (L.filter fun w => !decide (w = z)) z y ≤ t := by
  rw [stI, fold_le]
  refine or_congr_right ⟨fun ⟨z, h, e1, e2⟩ => ⟨z, h, e1, by omega, by omega⟩, fun ⟨z, h, e1, e2, e3⟩ => ⟨z, h, e1, by omega⟩⟩
theorem st_le0 {f : Nat → Nat → Int} {L : List Nat} {x y : Nat} : ∀ {m : Nat}, stI f m L x y ≤ f x y
  | 0 => Int.le_refl _
  | m + 1 => st_le.mpr (.inl (Int.le_refl _))
theorem flt_len {L : List Nat} {z m : Nat} (h : z ∈ L) (hm : L.length ≤ m + 1) : (L.filter fun w => !decide (w = z)).length ≤ m := by
  have : (L.filter fun w => !decide (w = z)).length < L.length := by
    refine List.length_filter_lt_length_iff_exists.mpr ⟨z, h, ?_⟩
    simp
  omega
theorem flt_mem {L : List Nat} {z w : Nat} : w ∈ (L.filter fun w => !decide (w = z)) ↔ w ∈ L ∧ w ≠ z := by
  rw [List.mem_filter]; simp
theorem st_step {f : Nat → Nat → Int} {t : Int} : ∀ {m : Nat} {L : List Nat} {x a b : Nat}, L.length ≤ m → a ∈ L → b ∈ L → a ≠ b → stI f m L x a ≤ t → f a b ≤ t → stI f m L x b ≤ t
  | 0, L, x, a, b, hl, ha, _, _, _, _ => by
    have e : L = [] := List.eq_nil_of_length_eq_zero (by omega)
    rw [e] at ha; cases ha
  | m + 1, L, x, a, b, hl, ha, hb, ab, h, k => by
    rcases st_le.mp h with h | ⟨z, hz, za, h1, h2⟩
    · have := st_le0 (f := f) (L := L.filter fun w => !decide (w = a)) (x := a) (y := b) (m := m)
      exact st_le.mpr (.inr ⟨a, ha, ab, h, by omega⟩)
    · by_cases zb : z = b
      · subst zb; exact st_le.mpr (.inl h1)
      · exact st_le.mpr (.inr ⟨z, hz, zb, h1, st_step (flt_len hz hl) (flt_mem.mpr ⟨ha, Ne.symm za⟩) (flt_mem.mpr ⟨hb, Ne.symm zb⟩) ab h2 k⟩)
theorem st_least {n : Nat} {f u : Nat → Nat → Int} (U : Ultra n u) (h : ∀ x y, x < n → y < n → u x y ≤ f x y) : ∀ {m : Nat} {L : List Nat} {x y : Nat}, (∀ z ∈ L, z < n) → x < n → y < n → u x y ≤ stI f m L x y
  | 0, L, x, y, _, hx, hy => h x y hx hy
  | m + 1, L, x, y, hL, hx, hy => by
    rcases st_le.mp (Int.le_refl (stI f (m + 1) L x y)) with e | ⟨z, hz, _, h1, h2⟩
    · have := h x y hx hy
      omega
    · have hz' := hL z hz
      have := st_least U h (m := m) (L := L.filter fun w => !decide (w = z)) (x := z) (y := y) (fun w hw => hL w (flt_mem.mp hw).1) hz' hy
      have := h x z hx hz'
      have := U x z y hx hz' hy
      omega
theorem st_mm {n m : Nat} {f : Nat → Nat → Int} (M : Met n f) {x y : Nat} (hx : x < n) (hy : y < n) (xy : x ≠ y) (hm : n ≤ m) : stI f m ((List.range n).filter fun w => !decide (w = x)) x y = mmI f n x y := by
  have hL : ∀ z, z ∈ ((List.range n).filter fun w => !decide (w = x)) ↔ z < n ∧ z ≠ x := fun z => by rw [flt_mem, List.mem_range]
  have hl : ((List.range n).filter fun w => !decide (w = x)).length ≤ m := by
    have := List.length_filter_le (fun w => !decide (w = x)) (List.range n)
    rw [List.length_range] at this
    omega
  have lo := st_least (mm_Ultra M) (fun a b ha hb => ((mm_ok M n (Nat.le_refl _)).2 a b ha hb).2.1) (m := m) (L := (List.range n).filter fun w => !decide (w = x)) (fun z hz => ((hL z).mp hz).1) hx hy
  rcases Int.lt_or_le (mmI f n x y) (stI f m ((List.range n).filter fun w => !decide (w = x)) x y) with c | c
  · exfalso
    have := mm_cut (n := n) (f := f) (t := mmI f n x y) (A := fun w => w = x ∨ stI f m ((List.range n).filter fun w => !decide (w = x)) x w ≤ mmI f n x y) (fun a b ha hb hA hB => by
      rcases Int.lt_or_le (mmI f n x y) (f a b) with q | q
      · exact q
      exfalso
      have bx : b ≠ x := fun e => hB (.inl e)
      have b2 : ¬ stI f m ((List.range n).filter fun w => !decide (w = x)) x b ≤ mmI f n x y := fun e => hB (.inr e)
      by_cases ax : a = x
      · subst ax
        have := st_le0 (f := f) (L := (List.range n).filter fun w => !decide (w = a)) (x := a) (y := b) (m := m)
        omega
      · have h1 := hA.resolve_left ax
        exact b2 (st_step hl ((hL a).mpr ⟨ha, ax⟩) ((hL b).mpr ⟨hb, bx⟩) (fun e => by subst e; exact b2 h1) h1 q)) n (Nat.le_refl _) x y hx hy (.inl rfl) (fun e => by
      rcases e with e | e
      · exact xy e.symm
      · omega)
    omega
  · omega
theorem mm_met {n : Nat} {F : Nat → Nat → Int} (M : Met n F) : Met n (mmI F n) where
  zero := (mm_ok M n (Nat.le_refl _)).1
  sym := fun x y hx hy => ((mm_ok M n (Nat.le_refl _)).2 x y hx hy).2.2.1
  pos := fun x y hx hy => ((mm_ok M n (Nat.le_refl _)).2 x y hx hy).2.2.2
  tri := fun x y z hx hy hz => by
    have := mm_Ultra M x y z hx hy hz
    have := ((mm_ok M n (Nat.le_refl _)).2 x y hx hy).1
    have := ((mm_ok M n (Nat.le_refl _)).2 y z hy hz).1
    omega
  le := fun x y hx hy => by
    have := M.le x y hx hy
    have := ((mm_ok M n (Nat.le_refl _)).2 x y hx hy).2.1
    omega
/-- a table of scaled numbers -/
def gQ (a b : Int) (g : Nat → Nat → Int) : Nat → Nat → D := fun i j => Rt (scl a b (g i j))
/-- a turn over the point k, as far as x, y -/
def sl (f : Nat → Nat → Int) (k x y : Nat) : Nat → Nat → Int := fun i j => if i < x ∨ (i = x ∧ j < y) then min (f i j) (max (f i k) (f k j)) else f i j
theorem sl_0 {n : Nat} {a b : Int} {f : Nat → Nat → Int} {k : Nat} : tb n (gQ a b (sl f k 0 0)) = tb n (gQ a b f) := tb_ext fun i j _ _ => by
  unfold gQ sl
  rw [if_neg (by omega)]
theorem sl_n {n : Nat} {a b : Int} {f : Nat → Nat → Int} {k x : Nat} : tb n (gQ a b (sl f k x n)) = tb n (gQ a b (sl f k (x + 1) 0)) := tb_ext fun i j _ hj => by
  unfold gQ sl
  by_cases c : i < x + 1
  · rw [if_pos (by omega), if_pos (by omega)]
  · rw [if_neg (by omega), if_neg (by omega)]
theorem sl_e {n : Nat} {a b : Int} {f : Nat → Nat → Int} {k : Nat} : tb n (gQ a b (sl (mmI f k) k n 0)) = tb n (gQ a b (mmI f (k + 1))) := tb_ext fun i j hi _ => by
  unfold gQ sl
  rw [if_pos (by omega)]
  rfl
theorem r_great2 {m : Nat} {p q : Rat} (A : Sq m p) (B : Sq m q) (hm : m ≤ 4500) : Ev.run P (k + 2) 12 [.fr (.lst [Rt p, Rt q])] = some (.ret (.fr (Rt (mxQ p q))) []) := by
  have := r_greatest (k := k) (m := m) (v := .lst [Rt p, Rt q]) (qs := [p, q]) rfl (.inr rfl) (fun r hr => by
    simp only [List.mem_cons, List.not_mem_nil, or_false] at hr
    rcases hr with rfl | rfl
    · exact A
    · exact B) (by omega)
  rw [this, List.foldl_cons, List.foldl_cons, List.foldl_nil, mxQ_f (m := p) (q := p) Rat.lt_irrefl]
theorem r_single {n : Nat} {F : Nat → Nat → Int} {a b : Int} (M : Met n F) (ha : 0 < a) (ha4 : a ≤ 4) (hb : 0 < b) (hb4 : b ≤ 4) (h1 : 1 ≤ n) (hn : n ≤ 8) : Ev.run P (k + 5) 20 [.fr (Mq n fun x y => scl a b (F x y))] = some (.ret (.fr (Mq n fun x y => scl a b (mmI F n x y))) []) := by
  have sqm : ∀ j, j ≤ n → ∀ x y, x < n → y < n → Sq 17 (scl a b (mmI F j x y)) := fun j hj x y hx hy => scl_sq (m := 14) (k := 3) hb (by
    have := (mm_ok M j hj).2 x y hx hy
    have := M.le x y hx hy
    unfold Sz; omega) (by unfold Sz; omega) (by unfold Sz; omega)
  have l1 : ltL none (ltS P (Ev.run P (k + 4)) (.nm 4) c_single_linkage_0 [4]) (rowsQ n fun x y => scl a b (F x y)) [] [some (.fr (Mq n fun x y => scl a b (F x y))), none, none, none, none, none, none] = some (.ok (tb n (gQ a b F)) [some (.fr (Mq n fun x y => scl a b (F x y))), none, none, none, none, none, none]) := by
    have h := ltL_T (b := none) (step := ltS P (Ev.run P (k + 4)) (.nm 4) c_single_linkage_0 [4]) (ρ := [some (.fr (Mq n fun x y => scl a b (F x y))), none, none, none, none, none, none]) (g := rowQ n fun x y => scl a b (F x y)) (as := List.range n) (fun x => (List.range n).map fun y => Rt (scl a b (F x y))) (fun x hx => by
      unfold rowQ
      unfold c_single_linkage_0
      simp! []) (by rw [List.length_range]; unfold most; omega)
    exact h
  have L2 := fun (j : Nat) (hj : j < n) (x : Nat) (hx : x < n) => (for_E (P := P) (C := Ev.run P (k + 4)) (t := (.nm 5)) (b := l_single_linkage_2) (mu := []) (src := rngD 0 (n)) (n := n) (fun y => [some (.fr (Mq n fun x y => scl a b (F x y))), some (.tb (tb n (gQ a b (sl (mmI F j) j x y)))), some (.fr (.int (j))), some (.fr (.int (x))), none, none, none])) (fun y hy => by
    obtain ⟨z, h⟩ := mm_ok M j (by omega)
    have zj := z j hj
    have hxj := h x j hx hj
    have hjy := h j y hj hy
    have e1 : sl (mmI F j) j x y x j = mmI F j x j := by
      unfold sl; split <;> omega
    have e2 : sl (mmI F j) j x y j y = mmI F j j y := by
      unfold sl; split <;> omega
    have e3 : sl (mmI F j) j x y x y = mmI F j x y := by
      unfold sl; rw [if_neg (by omega)]
    have i1 : ix2D (tb n (gQ a b (sl (mmI F j) j x y))) (x : Int) (j : Int) = some (Rt (scl a b (mmI F j x j))) := by rw [ix2_tb hx hj, gQ, e1]
    have i2 : ix2D (tb n (gQ a b (sl (mmI F j) j x y))) (j : Int) (y : Int) = some (Rt (scl a b (mmI F j j y))) := by rw [ix2_tb hj hy, gQ, e2]
    have i3 : ix2D (tb n (gQ a b (sl (mmI F j) j x y))) (x : Int) (y : Int) = some (Rt (scl a b (mmI F j x y))) := by rw [ix2_tb hx hy, gQ, e3]
    have g := r_great2 (k := k + 2) (sqm j (by omega) x j hx hj) (sqm j (by omega) j y hj hy) (by omega)
    rw [scl_mx ha hb] at g
    have sg : Sq 17 (scl a b (max (mmI F j x j) (mmI F j j y))) := by
      rcases Int.le_total (mmI F j x j) (mmI F j j y) with c | c
      · rw [Int.max_eq_right c]; exact sqm j (by omega) j y hj hy
      · rw [Int.max_eq_left c]; exact sqm j (by omega) x j hx hj
    have ls := r_less (k := k + 3) sg (sqm j (by omega) x y hx hy) (by omega)
    by_cases c : max (mmI F j x j) (mmI F j j y) < mmI F j x y
    · rw [decide_eq_true ((scl_lt ha hb).mpr c)] at ls
      have st := set2_tb (n := n) (g := gQ a b (sl (mmI F j) j x y)) (v := Rt (scl a b (max (mmI F j x j) (mmI F j j y)))) hx hy
      have eT : tb n (gQ a b (sl (mmI F j) j x (y + 1))) = tb n (up (gQ a b (sl (mmI F j) j x y)) x y (Rt (scl a b (max (mmI F j x j) (mmI F j j y))))) := tb_ext fun i l _ _ => by
        unfold up gQ
        by_cases d : i = x ∧ l = y
        · rw [if_pos d, d.1, d.2, sl, if_pos (by omega), Int.min_eq_right (by omega)]
        · rw [if_neg d]
          unfold sl
          by_cases d2 : i < x ∨ (i = x ∧ l < y)
          · rw [if_pos d2, if_pos (by omega)]
          · rw [if_neg d2, if_neg (by omega)]
      rw [eT]
      unfold l_single_linkage_2
      simp! [i1, i2, i3, g, ls, st]
    · rw [decide_eq_false (fun e => c ((scl_lt ha hb).mp e))] at ls
      have eT : tb n (gQ a b (sl (mmI F j) j x (y + 1))) = tb n (gQ a b (sl (mmI F j) j x y)) := tb_ext fun i l _ _ => by
        unfold gQ
        by_cases d : i = x ∧ l = y
        · rw [d.1, d.2, e3, sl, if_pos (by omega), Int.min_eq_left (by omega)]
        · unfold sl
          by_cases d2 : i < x ∨ (i = x ∧ l < y)
          · rw [if_pos d2, if_pos (by omega)]
          · rw [if_neg d2, if_neg (by omega)]
      rw [eT]
      unfold l_single_linkage_2
      simp! [i1, i2, i3, g, ls])
  have L1 := fun (j : Nat) (hj : j < n) => (for_E (P := P) (C := Ev.run P (k + 4)) (t := (.nm 3)) (b := l_single_linkage_1) (mu := []) (src := rngD 0 (n)) (n := n) (fun x => [some (.fr (Mq n fun x y => scl a b (F x y))), some (.tb (tb n (gQ a b (sl (mmI F j) j x 0)))), some (.fr (.int (j))), none, none, none, none])) (fun x hx => by
    have l := L2 j hj x hx
    rw [sl_n] at l
    unfold l_single_linkage_1
    simp! [l])
  have L0 := (for_E (P := P) (C := Ev.run P (k + 4)) (t := (.nm 2)) (b := l_single_linkage_0) (mu := []) (src := rngD 0 (n)) (n := n) (fun j => [some (.fr (Mq n fun x y => scl a b (F x y))), some (.tb (tb n (gQ a b (mmI F j)))), none, none, none, none, none])) (fun j hj => by
    have l := L1 j hj
    rw [sl_0, sl_e] at l
    unfold l_single_linkage_0
    simp! [l])
  have L0' : forK P (Ev.run P (k + 4)) (.nm 2) l_single_linkage_0 [] (rngD 0 n, none) (rngD 0 n) [some (.fr (Mq n fun x y => scl a b (F x y))), some (.tb (tb n (gQ a b F))), none, none, none, none, none] = some (.nx [some (.fr (Mq n fun x y => scl a b (F x y))), some (.tb (tb n (gQ a b (mmI F n)))), none, none, none, none, none]) := L0
  have et : (D.lst ((tb n (gQ a b (mmI F n))).map D.lst)) = .lst ((List.range n).map fun x => D.lst ((List.range n).map fun y => Rt (scl a b (mmI F n x y)))) := by
    unfold tb
    rw [List.map_map]
    rfl
  have mi := r_metricG (k := k) (rows_lst (n := n) (d := fun x y => scl a b (mmI F n x y))) ((mm_met M).scl ha ha4 hb hb4) (by decide) h1 hn
  rw [run_on (F := f_single_linkage) rfl rfl]
  show outR [] (execs P _ b_single_linkage [] [some (.fr _), none, none, none, none, none, none]) = _
  unfold b_single_linkage
  simp! [l1, L0', et, mi]
theorem r_fail {m n : Nat} {d : Nat → Nat → Rat} (M : MetQ m n d) (hm : m ≤ 4000) (hn : n ≤ 1000) (U : ∀ x y z, x < n → y < n → z < n → d x z ≤ mxQ (d x y) (d y z)) : Ev.run P (k + 3) 18 [.fr (Mq n d)] = some (.ret (.fr .non) []) := by
  have L2 := fun (x : Nat) (hx : x < n) (y : Nat) (hy : y < n) => (for_K (P := P) (C := Ev.run P (k + 2)) (t := (.nm 3)) (b := l_failing_triple_2) (mu := []) (src := rngD 0 (n)) (n := n) (ρ := [some (.fr (Mq n d)), some (.fr (.int (x))), some (.fr (.int (y))), none])) (fun z hz => by
    have i1 := ixQ1 (n := n) (d := d) hx
    have i2 := ixQ1 (n := n) (d := d) hy
    have g := r_great2 (k := k) (M.sq x y hx hy) (M.sq y z hy hz) (by omega)
    have sm : Sq m (mxQ (d x y) (d y z)) := by
      unfold mxQ
      split
      · exact M.sq y z hy hz
      · exact M.sq x y hx hy
    have ls := r_less (k := k + 1) sm (M.sq x z hx hz) (by omega)
    rw [decide_eq_false (Rat.not_lt.mpr (U x y z hx hy hz))] at ls
    unfold l_failing_triple_2
    simp! [i1, i2, g, ls])
  have L1 := fun (x : Nat) (hx : x < n) => (for_K (P := P) (C := Ev.run P (k + 2)) (t := (.nm 2)) (b := l_failing_triple_1) (mu := []) (src := rngD 0 (n)) (n := n) (ρ := [some (.fr (Mq n d)), some (.fr (.int (x))), none, none])) (fun y hy => by
    unfold l_failing_triple_1
    simp! [L2 x hx y hy])
  have L0 := (for_K (P := P) (C := Ev.run P (k + 2)) (t := (.nm 1)) (b := l_failing_triple_0) (mu := []) (src := rngD 0 (n)) (n := n) (ρ := [some (.fr (Mq n d)), none, none, none])) (fun x hx => by
    unfold l_failing_triple_0
    simp! [L1 x hx])
  rw [run_on (F := f_failing_triple) rfl rfl]
  show outR [] (execs P _ b_failing_triple [] [some (.fr _), none, none, none]) = _
  unfold b_failing_triple
  simp! [L0]
theorem r_isultra {m n : Nat} {d : Nat → Nat → Rat} (M : MetQ m n d) (hm : m ≤ 4000) (hn : n ≤ 1000) (U : ∀ x y z, x < n → y < n → z < n → d x z ≤ mxQ (d x y) (d y z)) : Ev.run P (k + 4) 19 [.fr (Mq n d)] = some (.ret (.fr (.bl true)) []) := by
  have f := r_fail (k := k) M hm hn U
  rw [run_on (F := f_is_ultrametric) rfl rfl]
  show outR [] (execs P _ b_is_ultrametric [] [some (.fr _)]) = _
  unfold b_is_ultrametric
  simp! [f]
theorem r_lsteps {n : Nat} {f : Nat → Nat → Int} (hn : n ≤ 1000) : ∀ {m k : Nat} {L : List Nat} {x y : Nat}, L.length ≤ m → L.length ≤ 1000 → (∀ z ∈ L, z < n) → x < n → y < n → Ev.run P (k + m + 1) 36 [.fr (.lst (rowsT n f)), .fr (.int x), .fr (.int y), .fr (.lst (L.map fun u : Nat => D.int (u : Int)))] = some (.ret (.fr (.int (stI f m L x y))) [])
  | 0, k, L, x, y, hl, _, _, hx, hy => by
    have e : L = [] := List.eq_nil_of_length_eq_zero (by omega)
    subst e
    have i1 := ixT1 (f := f) hx
    have i2 := ixT2 (f := f) (x := x) hy
    rw [stI]
    rw [run_on (F := f_law_steps) rfl rfl]
    show outR [] (execs P _ b_law_steps [] [some (.fr _), some (.fr _), some (.fr _), some (.fr _), none, none, none, none]) = _
    unfold b_law_steps
    simp! [i1, i2, it_lst, List.map_nil, for_nil]
  | m + 1, k, L, x, y, hl, hl2, hL, hx, hy => by
    have i1 := ixT1 (f := f) hx
    have i2 := ixT2 (f := f) (x := x) hy
    have lp := (for_F (P := P) (C := Ev.run P (k + (m + 1))) (t := (.nm 5)) (b := l_law_steps_0) (mu := []) (src := (L).map (fun u : Nat => D.int (u : Int))) (g := fun u : Nat => D.int (u : Int)) (as := L) (f := fun b z => if z = y then b else min b (max (f x z) (stI f m (L.filter fun w => !decide (w = z)) z y))) (s := f x y) (fun b => [some (.fr (.lst (rowsT n f))), some (.fr (.int (x))), some (.fr (.int (y))), some (.fr (.lst (L.map fun u : Nat => D.int (u : Int)))), some (.fr (.int (b))), none, none, none])) (fun z hz b => by
      by_cases c : z = y
      · have c' : decide (z = y) = true := decide_eq_true c
        rw [if_pos c]
        unfold l_law_steps_0
        simp! [c']
      · have c' : decide (z = y) = false := decide_eq_false c
        have i3 := ixT2 (f := f) (x := x) (hL z hz)
        have hf := List.length_filter_le (fun w => !decide (w = z)) L
        have ih := r_lsteps (f := f) hn (m := m) (k := k) (L := L.filter fun w => !decide (w = z)) (x := z) (y := y) (flt_len hz hl) (by omega) (fun w hw => hL w (flt_mem.mp hw).1) (hL z hz) hy
        rw [show k + m + 1 = k + (m + 1) by omega] at ih
        have lc := lcL_F (b := none) (step := lcS P (Ev.run P (k + (m + 1))) (.nm 7) c_law_steps_0i c_law_steps_0 [7]) (ρ := [some (.fr (.lst (rowsT n f))), some (.fr (.int (x))), some (.fr (.int (y))), some (.fr (.lst (L.map fun u : Nat => D.int (u : Int)))), some (.fr (.int (b))), some (.fr (.int (z))), none, none]) (g := fun u : Nat => D.int (u : Int)) (as := L) (fun w => !decide (w = z)) (fun w hw => by
          unfold c_law_steps_0i c_law_steps_0
          by_cases q : w = z
          · have q2 : decide (w = z) = true := decide_eq_true q
            simp! [q2]
          · have q2 : decide (w = z) = false := decide_eq_false q
            simp! [q2]) (by unfold most; omega)
        rw [if_neg c]
        unfold l_law_steps_0
        simp! [c', it_lst, lc, i1, i3, ih, min_if, max_if])
    rw [stI]
    rw [show k + (m + 1) + 1 = (k + (m + 1)) + 1 from rfl]
    rw [run_on (F := f_law_steps) rfl rfl]
    show outR [] (execs P _ b_law_steps [] [some (.fr _), some (.fr _), some (.fr _), some (.fr _), none, none, none, none]) = _
    unfold b_law_steps
    simp! [i1, i2, it_lst, lp]
theorem mq_eqno {n : Nat} {d : Nat → Nat → Rat} {u : D} (h : notIns u = true) : Ev.run P (k + 1) 17 [.fr (Mq n d), .fr u] = some (.ret (.fr (.bl false)) []) := by
  rw [run_on (F := f_Metric_eq) rfl rfl]
  show outR [] (execs P _ b_Metric_eq [] [some (.fr _), some (.fr _)]) = _
  unfold b_Metric_eq
  simp_arith [ty_bc h ps_Metric_Metric]
theorem eq_mu {n : Nat} {d : Nat → Nat → Rat} {s : PySem.Str} : eqD P (Ev.run P (k + 1)) (Mq n d) (.str s) = some false := by
  rw [eq_ins rfl pm_Metric_eq, mq_eqno rfl]; rfl
theorem mq_odd {n : Nat} {d : Nat → Nat → Rat} : Ev.run P (k + 2) 22 [.fr (Mq n d)] = some (.ret (.fr (.bl false)) []) := by
  have e : eqD P (Ev.run P (k + 1)) (Mq n d) (.str "a word that nothing else is") = some false := eq_mu
  have t1 : tyD P (Mq n d) .tuple = some false := ty_cb px_Metric ps_Metric_Metric (by intro _ z; cases z)
  have t2 : tyD P (Mq n d) .list = some false := ty_cb px_Metric ps_Metric_Metric (by intro _ z; cases z)
  rw [run_on (F := f_law_odd) rfl rfl]
  show outR [] (execs P _ b_law_odd [] [some (.fr _), none]) = _
  unfold b_law_odd
  simp_arith [e, t1, t2]
theorem hon_mq {n : Nat} {d : Nat → Nat → Rat} : Ev.run P (k + 3) 23 [.fr (Mq n d)] = some (.ret (.fr (Mq n d)) []) := by
  have o := mq_odd (k := k) (n := n) (d := d)
  rw [run_on (F := f_law_honest) rfl rfl]
  show outR [] (execs P _ b_law_honest [] [some (.fr _)]) = _
  unfold b_law_honest
  simp_arith [o]
theorem noLs_map {α : Type} {g : α → D} (h : ∀ x, noLst (g x) = true) : ∀ {xs : List α}, noLsts (xs.map g) = true
  | [] => by rw [List.map_nil, noLsts]
  | x :: xs => by rw [List.map_cons, noLsts, h x, noLs_map h]; rfl
theorem noL_rowsQ {n : Nat} {d : Nat → Nat → Rat} : noLst (.tup (rowsQ n d)) = true := by
  unfold rowsQ
  rw [noLst]
  refine noLs_map fun x => ?_
  unfold rowQ
  rw [noLst]
  exact noLs_map fun y => rfl
def rowU (n : Nat) (u : Nat → Nat → Int) (x : Nat) : D := .lst ((List.range n).map fun y => D.int (u x y))
theorem ixU1 {n : Nat} {u : Nat → Nat → Int} {x : Nat} (hx : x < n) : idxD (.lst ((List.range n).map (rowU n u))) (.int (x : Int)) = some (.ok (.fr (rowU n u x))) := by
  rw [ix_l, List.length_map, List.length_range, ixD_nat hx, ixL_s, rg_get hx]; rfl
theorem ixU2 {n : Nat} {u : Nat → Nat → Int} {x y : Nat} (hy : y < n) : idxD (rowU n u x) (.int (y : Int)) = some (.ok (.fr (.int (u x y)))) := by
  unfold rowU
  rw [ix_l, List.length_map, List.length_range, ixD_nat hy, ixL_s, rg_get hy]; rfl
theorem r_ratiosU {n : Nat} {f : Nat → Nat → Int} {a b : Int} (hn : n ≤ 1000) (ha : 0 < a) (ha4 : a ≤ 4) (hb : 0 < b) (hb4 : b ≤ 4) : Ev.run P (k + 2) 35 [.fr (.lst ((List.range n).map (rowU n f))), .fr (.tup [.int a, .int b])] = some (.ret (.fr (.tup (rowsQ n fun x y => scl a b (f x y)))) []) := by
  have hn' : n ≤ most := by unfold most; omega
  have l1 : ∀ x, lcL none (lcS P (Ev.run P (k + 1)) (.nm 3) .nil c_law_ratios_1 [3]) ((List.range n).map fun y => .int (f x y)) [] [some (.fr (.lst ((List.range n).map (rowU n f)))), some (.fr (.tup [.int a, .int b])), some (.fr (rowU n f x)), none] = some (.ok ((List.range n).map fun y => Rt (scl a b (f x y))) [some (.fr (.lst ((List.range n).map (rowU n f)))), some (.fr (.tup [.int a, .int b])), some (.fr (rowU n f x)), none]) := fun x => by
    refine lcL_T _ (fun y hy => ?_) (by simpa using hn')
    have i := i_div (k := k) (n := f x y * a) hb (by omega)
    have mo : mulOk (f x y) a = true := mulOk_r (by omega)
    unfold c_law_ratios_1 scl
    simp_arith [i, mo]
  have l2 : lcL none (lcS P (Ev.run P (k + 1)) (.nm 2) .nil c_law_ratios_0 [2]) ((List.range n).map (rowU n f)) [] [some (.fr (.lst ((List.range n).map (rowU n f)))), some (.fr (.tup [.int a, .int b])), none, none] = some (.ok (rowsQ n fun x y => scl a b (f x y)) [some (.fr (.lst ((List.range n).map (rowU n f)))), some (.fr (.tup [.int a, .int b])), none, none]) := by
    unfold rowsQ
    refine lcL_T _ (fun x hx => ?_) (by simpa using hn')
    have l := l1 x
    have e : itemsOf (rowU n f x) = some ((List.range n).map fun y => .int (f x y)) := rfl
    unfold c_law_ratios_0 rowQ
    simp_arith [e, l]
  rw [run_on (F := f_law_ratios) rfl rfl]
  show outR [] (execs P _ b_law_ratios [] [some (.fr _), some (.fr _), none, none]) = _
  unfold b_law_ratios
  simp_arith [it_lst, l2]
/-- nowhere above, so far -/
def row0 (o f : Nat → Nat → Int) (x y : Nat) : Bool := (List.range y).all fun j => decide (o x j ≤ f x j)
def bel (o f : Nat → Nat → Int) (n x : Nat) : Bool := (List.range x).all fun i => row0 o f i n
theorem row0_s {o f : Nat → Nat → Int} {x y : Nat} : row0 o f x (y + 1) = (row0 o f x y && decide (o x y ≤ f x y)) := by
  unfold row0
  rw [List.range_succ, List.all_append, List.all_cons, List.all_nil, Bool.and_true]
theorem bel_s {o f : Nat → Nat → Int} {n x : Nat} : bel o f n (x + 1) = (bel o f n x && row0 o f x n) := by
  unfold bel
  rw [List.range_succ, List.all_append, List.all_cons, List.all_nil, Bool.and_true]
theorem bel_le {o f : Nat → Nat → Int} {n : Nat} (h : bel o f n n = true) : ∀ x y, x < n → y < n → o x y ≤ f x y := fun x y hx hy => by
  unfold bel row0 at h
  have h1 := List.all_eq_true.mp h x (List.mem_range.mpr hx)
  exact of_decide_eq_true (List.all_eq_true.mp h1 y (List.mem_range.mpr hy))
theorem t4 {n : Nat} {F o : Nat → Nat → Int} (U : Ultra n o) (hn : n ≤ 5) : outR [] (execs P (Ev.run P 8) t_law_4 [] [none, none, X2, some (.fr (.int (n))), none, none, some (.ow ((List.range n).map (rowU n (mmI F n)))), none, some (.fr (.lst (rowsT n o))), some (.fr (.bl (bel o F n n))), none, none]) = some (.ret (.fr (.bl true)) []) := by
  cases c : bel o F n n with
  | false =>
    unfold t_law_4 t_law_5
    simp! []
  | true =>
    have w := mm_most U (bel_le c) n (Nat.le_refl _)
    have L2 := fun (x : Nat) (hx : x < n) => (for_K (P := P) (C := Ev.run P (8)) (t := (.nm 10)) (b := l_law_4) (mu := []) (src := rngD 0 (n)) (n := n) (ρ := [none, none, none, some (.fr (.int (n))), none, none, some (.ow ((List.range n).map (rowU n (mmI F n)))), some (.fr (.int (x))), some (.fr (.lst (rowsT n o))), none, none, none])) (fun y hy => by
      have i1 := ixU1 (n := n) (u := mmI F n) hx
      have i2 := ixU2 (n := n) (u := mmI F n) (x := x) hy
      have i3 := ixT1 (f := o) hx
      have i4 := ixT2 (f := o) (x := x) hy
      have c' : decide (mmI F n x y < o x y) = false := decide_eq_false (by have := w x y hx hy; omega)
      unfold l_law_4
      simp! [i1, i2, i3, i4, c'])
    have L1 := (for_K (P := P) (C := Ev.run P (8)) (t := (.nm 7)) (b := l_law_3) (mu := []) (src := rngD 0 (n)) (n := n) (ρ := [none, none, none, some (.fr (.int (n))), none, none, some (.ow ((List.range n).map (rowU n (mmI F n)))), none, some (.fr (.lst (rowsT n o))), none, none, none])) (fun x hx => by
      unfold l_law_3
      simp! [L2 x hx])
    unfold t_law_4 t_law_5
    simp! [L1]
theorem t3 {n : Nat} {F o : Nat → Nat → Int} (M : Met n F) (U : Ultra n o) (hn : n ≤ 5) : outR [] (execs P (Ev.run P 8) t_law_3 [] [none, X1, some (.fr (.lst (rowsT n F))), some (.fr (.int (n))), X4, X5, some (.ow ((List.range n).map (rowU n (mmI F n)))), none, some (.fr (.lst (rowsT n o))), some (.fr (.bl true)), none, none]) = some (.ret (.fr (.bl true)) []) := by
  have L2 := fun (x : Nat) (hx : x < n) => (for_E (P := P) (C := Ev.run P (8)) (t := (.nm 10)) (b := l_law_2) (mu := []) (src := rngD 0 (n)) (n := n) (fun y => [none, none, some (.fr (.lst (rowsT n F))), some (.fr (.int (n))), none, none, some (.ow ((List.range n).map (rowU n (mmI F n)))), some (.fr (.int (x))), some (.fr (.lst (rowsT n o))), some (.fr (.bl (bel o F n x && row0 o F x y))), none, none])) (fun y hy => by
    have i1 := ixU1 (n := n) (u := mmI F n) hx
    have i2 := ixU2 (n := n) (u := mmI F n) (x := x) hy
    have i3 := ixT1 (f := o) hx
    have i4 := ixT2 (f := o) (x := x) hy
    have i5 := ixT1 (f := F) hx
    have i6 := ixT2 (f := F) (x := x) hy
    have c1 : decide (F x y < mmI F n x y) = false := decide_eq_false (by have := (mm_ok M n (Nat.le_refl _)).2 x y hx hy; omega)
    rw [row0_s]
    unfold l_law_2
    by_cases q : F x y < o x y
    · have c2 : decide (F x y < o x y) = true := decide_eq_true q
      have c3 : decide (o x y ≤ F x y) = false := decide_eq_false (by omega)
      rw [c3, Bool.and_false, Bool.and_false]
      simp! [i1, i2, i3, i4, i5, i6, c1, c2]
    · have c2 : decide (F x y < o x y) = false := decide_eq_false q
      have c3 : decide (o x y ≤ F x y) = true := decide_eq_true (by omega)
      rw [c3, Bool.and_true]
      simp! [i1, i2, i3, i4, i5, i6, c1, c2])
  have L1 := (for_E (P := P) (C := Ev.run P (8)) (t := (.nm 7)) (b := l_law_1) (mu := []) (src := rngD 0 (n)) (n := n) (fun x => [none, none, some (.fr (.lst (rowsT n F))), some (.fr (.int (n))), none, none, some (.ow ((List.range n).map (rowU n (mmI F n)))), none, some (.fr (.lst (rowsT n o))), some (.fr (.bl (bel o F n x))), none, none])) (fun x hx => by
    have l := L2 x hx
    have e : row0 o F x 0 = true := rfl
    rw [e, Bool.and_true, ← bel_s] at l
    unfold l_law_1
    simp! [l])
  have e : bel o F n 0 = true := rfl
  rw [e] at L1
  unfold t_law_3
  simp! [L1, t4 U hn]
theorem plain (ns : List Int) : Ev.run P 9 37 [.fr (.frz (ns.map .int))] = some (.ret (.fr (.bl true)) []) := by
  obtain ⟨s, hst⟩ := t_state (k := 7) (ns := ns)
  obtain ⟨n, F, s1, r1, M, h1, h5⟩ := r_rows (k := 4) (mo := 5) (by decide) (by decide) (s := s)
  rw [show ((5 : Nat) : Int) = 5 from rfl] at r1
  obtain ⟨a, b, s2, fa, ha, ha4, hb, hb4⟩ := r_factor (s := s1)
  have fa := fa 6
  have q1 := r_ratios (k := 6) (f := F) (v := .lst (rowsT n F)) rfl (by omega) ha ha4 hb hb4
  have MQ := M.scl ha ha4 hb hb4
  have MU := (mm_met M).scl ha ha4 hb hb4
  have m1 := r_metric (k := 4) MQ (by decide) h1 (by omega)
  have sg := r_single (k := 3) M ha ha4 hb hb4 h1 (by omega)
  have l0 := fun (x : Nat) (hx : x < n) => lc_R (b := none) (step := lcS P (Ev.run P (8)) (.nm 10) .nil c_law_0 [10]) (ρ := [none, some (St2 s2), some (.fr (.lst (rowsT n F))), some (.fr (.int (n))), some (.fr (.tup [.int a, .int b])), some (.fr (Mq n fun x y => scl a b (mmI F n x y))), some (.ow ((List.range x).map (rowU n (mmI F n)))), some (.fr (.int (x))), none, none, none, none]) (n := n) (fun y => D.int (mmI F n x y)) (fun y hy => by
    have l1 := lc_RF (b := none) (step := lcS P (Ev.run P (8)) (.nm 11) c_law_1i c_law_1 [11]) (ρ := [none, some (St2 s2), some (.fr (.lst (rowsT n F))), some (.fr (.int (n))), some (.fr (.tup [.int a, .int b])), some (.fr (Mq n fun x y => scl a b (mmI F n x y))), some (.ow ((List.range x).map (rowU n (mmI F n)))), some (.fr (.int (x))), none, none, some (.fr (.int (y))), none]) (n := n) (fun w => !decide (w = x)) (fun w hw => by
      unfold c_law_1i c_law_1
      by_cases q : w = x
      · have q2 : decide (w = x) = true := decide_eq_true q
        simp! [q2]
      · have q2 : decide (w = x) = false := decide_eq_false q
        simp! [q2]) (by unfold most; omega)
    unfold c_law_0
    by_cases c : x = y
    · have c' : decide (x = y) = true := decide_eq_true c
      have z := (mm_ok M n (Nat.le_refl _)).1 x hx
      subst c
      rw [z]
      simp! [c']
    · have c' : decide (x = y) = false := decide_eq_false c
      have hf := List.length_filter_le (fun w => !decide (w = x)) (List.range n)
      rw [List.length_range] at hf
      have st := r_lsteps (f := F) (n := n) (by omega) (m := 5) (k := 2) (L := (List.range n).filter fun w => !decide (w = x)) (x := x) (y := y) (by omega) (by omega) (fun w hw => List.mem_range.mp (flt_mem.mp hw).1) hx hy
      rw [st_mm M hx hy c (by omega)] at st
      simp! [c', l1, st]) (by unfold most; omega)
  have L0 := (for_E (P := P) (C := Ev.run P (8)) (t := (.nm 7)) (b := l_law_0) (mu := []) (src := rngD 0 (n)) (n := n) (fun x => [none, some (St2 s2), some (.fr (.lst (rowsT n F))), some (.fr (.int (n))), some (.fr (.tup [.int a, .int b])), some (.fr (Mq n fun x y => scl a b (mmI F n x y))), some (.ow ((List.range x).map (rowU n (mmI F n)))), none, none, none, none, none])) (fun x hx => by
    have l := l0 x hx
    have er : D.lst ((List.range n).map fun y => D.int (mmI F n x y)) = rowU n (mmI F n) x := rfl
    have hl : x < most := by unfold most; omega
    rw [List.range_succ, List.map_append]
    unfold l_law_0
    simp! [l, er, hl])
  have L0' : forK P (Ev.run P 8) (.nm 7) l_law_0 [] (rngD 0 n, none) (rngD 0 n) [none, some (St2 s2), some (.fr (.lst (rowsT n F))), some (.fr (.int (n))), some (.fr (.tup [.int a, .int b])), some (.fr (Mq n fun x y => scl a b (mmI F n x y))), some (.ow ([])), none, none, none, none, none] = some (.nx [none, some (St2 s2), some (.fr (.lst (rowsT n F))), some (.fr (.int (n))), some (.fr (.tup [.int a, .int b])), some (.fr (Mq n fun x y => scl a b (mmI F n x y))), some (.ow ((List.range n).map (rowU n (mmI F n)))), none, none, none, none, none]) := L0
  have q2 := r_ratiosU (k := 6) (n := n) (f := mmI F n) (by omega) ha ha4 hb hb4
  have es : eqD P (Ev.run P 8) (.tup (rowsQ n fun x y => scl a b (mmI F n x y))) (.tup (rowsQ n fun x y => scl a b (mmI F n x y))) = some true := eqs4 (k := 7) (Od.upto (n := 2) (od_rowsQ (k := 0) (by unfold most; omega)) (by decide))
  have iu := r_isultra (k := 4) MU (by decide) (by omega) (fun x y z hx hy hz => by
    rw [scl_mx ha hb, scl_le ha hb]
    exact mm_Ultra M x y z hx hy hz)
  obtain ⟨o, s3, lv, _, U⟩ := r_levelsU (k := 6) (n := n) (by omega) (s := s2)
  have hm := hon_mq (k := 5) (n := n) (d := fun x y => scl a b (mmI F n x y))
  have pp : ∀ {ρ : EnvD}, putR true [] ρ (some (.ret (.fr (.tup (rowsQ n fun x y => scl a b (mmI F n x y)))) [])) = some (.ok (.fr (.tup (rowsQ n fun x y => scl a b (mmI F n x y)))) ρ) := fun {ρ} => putR_p noL_rowsQ
  rw [run_on (F := f_law) rfl rfl]
  show outR [] (execs P _ b_law [] [some (.fr _), none, none, none, none, none, none, none, none, none, none, none]) = _
  unfold b_law
  unfold t_law_0 t_law_1 t_law_2
  simp! [hst, r1, rowsT_len, fa, q1, m1, sg, hm, L0', q2, es, pp, iu, lv, t3 M U h5]
end Law
namespace Law
open PySem PySem.Spec PySem.W PySem.Calls PyProof.Rows Ev
def dfs : List He.DefD := tab.fns.map FnE.defD
abbrev hk : Hook := He.hookX 4 [] dfs [] [] (factB tab)
def ob (s : SharedT) : He.AlX := He.obsX 4 [] dfs [] [] (factB tab) (HandSHeadRun.getT s)
theorem ob_eq (s : SharedT) : ob s = hk.obs s.abs := He.obsX_eq (HandSHeadRun.getT_eq s)
theorem hrun (w : World) : HandSHeadRun.RunEqI R qv hk ob 4000 loose w := by
  unfold HandSHeadRun.RunEqI
  kernel_rfl
end Law
open PySem PySem.W PySem.Calls PyProof.Rows
theorem PySem.Challenge.cw_spaceroads_k19_whole_single_linkage_holds : PySem.Challenge.rw_spaceroads_k19_whole_single_linkage.Holds := by
  w_on; o_law
  refine HandSHeadRun.head_imp (r := Law.R) (q := Law.qv) (H := Law.hk) (ob := Law.ob) (M := 4000) (loose := Law.loose) (d := HandSHeadRun.topDef Law.R.prog Law.lawTop) (kwd := []) Law.ob_eq Law.hrun
    (by kernel_rfl) (by kernel_rfl) (by kernel_rfl) (by rfl) (by first | assumption | decide +kernel) (by decide +kernel) ⟨rfl, rfl, rfl, rfl, rfl, by decide +kernel⟩ ?hw ?hc
  case hw => w_witness2
  case hc =>
    exact Ev.law_of (l := PySem.Challenge.rw_spaceroads_k19_whole_single_linkage) (n := 63) (k := 9) (g := Law.lawIx) (t := Law.tab) (e := Law.e_law) (x := "script") rfl (by decide) (by kernel_rfl) ⟨rfl, by decide, by decide⟩ Law.stat Law.fnsB Law.bps rfl (by kernel_rfl) rfl rfl rfl fun ns _ => Law.plain ns
