import PyProof.Rows.All
import Wide.All
import OpenK.AllK
import Wide.FinOn
import HandS.ForMost
import HandS.Star
import HandS.Conv
import HandS.Zip
import HandS.TupAny
import HandS.TupLen
import HandS.DictComp
import HandS.WideBits
import HandS.IsInst
import HandS.Codes
import HandS.Walk
import HandS.DictTup
import KE.SortData
import KE.GoesNewDict
import KE.KDictCopyH
import KE.KDictLaw
import PySem.Challenge.RW_shapeholes_k27_whole_small_changes
import HandS.SortInts
set_option Elab.async false
set_option linter.all false
set_option maxRecDepth 100000
set_option maxHeartbeats 4000000
namespace G98
/-! chains over two, spans, counts of leading places -/
section
variable {S : Type} [DecidableEq S]
abbrev Ch (S : Type) := S → Bool
def cz : Ch S := fun _ => false
def ca (x y : Ch S) : Ch S := fun s => (x s).xor (y s)
theorem ca_ap (x y : Ch S) (s : S) : ca x y s = (x s).xor (y s) := rfl
theorem ca_comm (x y : Ch S) : ca x y = ca y x := by funext s; simp [ca, Bool.xor_comm]
theorem ca_assoc (x y z : Ch S) : ca (ca x y) z = ca x (ca y z) := by funext s; simp [ca, Bool.xor_assoc]
theorem ca_self (x : Ch S) : ca x x = cz := by funext s; simp [ca, cz]
theorem ca_zero (x : Ch S) : ca x cz = x := by funext s; simp [ca, cz]
theorem zero_ca (x : Ch S) : ca cz x = x := by funext s; simp [ca, cz]
theorem ca_ca (x y : Ch S) : ca x (ca x y) = y := by rw [← ca_assoc, ca_self, zero_ca]
structure Sb (W : Ch S → Prop) : Prop where
  z : W cz
  a : ∀ x y, W x → W y → W (ca x y)
theorem Sb.cut {W : Ch S → Prop} (h : Sb W) (a : S) : Sb fun w => W w ∧ w a = false :=
  ⟨⟨h.z, rfl⟩, fun x y hx hy => ⟨h.a x y hx.1 hy.1, by simp [ca, hx.2, hy.2]⟩⟩
open Classical in
noncomputable def cnt : List S → (Ch S → Prop) → Nat
  | [], _ => 0
  | a :: L, W => (if ∃ w, W w ∧ w a = true then 1 else 0) + cnt L (fun w => W w ∧ w a = false)
open Classical in
theorem cnt_swap {W : Ch S → Prop} (h : Sb W) (a b : S) :
    (if ∃ w, W w ∧ w a = true then 1 else 0) + (if ∃ w, (W w ∧ w a = false) ∧ w b = true then 1 else 0) =
      (if ∃ w, W w ∧ w b = true then 1 else 0) + (if ∃ w, (W w ∧ w b = false) ∧ w a = true then 1 else 0) := by
  by_cases p : ∃ w, W w ∧ w a = true
  · by_cases q : ∃ w, W w ∧ w b = true
    · have rt : (∃ w, (W w ∧ w a = false) ∧ w b = true) ↔ (∃ w, (W w ∧ w b = false) ∧ w a = true) := by
        obtain ⟨u, hu, ua⟩ := p
        obtain ⟨v, hv, vb⟩ := q
        constructor
        · rintro ⟨w, ⟨hw, wa⟩, wb⟩
          cases ub : u b with
          | false => exact ⟨u, ⟨hu, ub⟩, ua⟩
          | true => exact ⟨ca u w, ⟨h.a _ _ hu hw, by simp [ca, ub, wb]⟩, by simp [ca, ua, wa]⟩
        · rintro ⟨w, ⟨hw, wa⟩, wb⟩
          cases vv : v a with
          | false => exact ⟨v, ⟨hv, vv⟩, vb⟩
          | true => exact ⟨ca v w, ⟨h.a _ _ hv hw, by simp [ca, vv, wb]⟩, by simp [ca, vb, wa]⟩
      rw [if_pos p, if_pos q]
      by_cases r : ∃ w, (W w ∧ w a = false) ∧ w b = true
      · rw [if_pos r, if_pos (rt.mp r)]
      · rw [if_neg r, if_neg (fun z => r (rt.mpr z))]
    · have r : ¬ ∃ w, (W w ∧ w a = false) ∧ w b = true := fun ⟨w, hw, wb⟩ => q ⟨w, hw.1, wb⟩
      have t : ∃ w, (W w ∧ w b = false) ∧ w a = true := by
        obtain ⟨u, hu, ua⟩ := p
        refine ⟨u, ⟨hu, ?_⟩, ua⟩
        cases ub : u b with
        | false => rfl
        | true => exact absurd ⟨u, hu, ub⟩ q
      rw [if_pos p, if_neg q, if_neg r, if_pos t]
  · have t : ¬ ∃ w, (W w ∧ w b = false) ∧ w a = true := fun ⟨w, hw, wb⟩ => p ⟨w, hw.1, wb⟩
    by_cases q : ∃ w, W w ∧ w b = true
    · have r : ∃ w, (W w ∧ w a = false) ∧ w b = true := by
        obtain ⟨u, hu, ub⟩ := q
        refine ⟨u, ⟨hu, ?_⟩, ub⟩
        cases ua : u a with
        | false => rfl
        | true => exact absurd ⟨u, hu, ua⟩ p
      rw [if_neg p, if_pos q, if_pos r, if_neg t]
    · have r : ¬ ∃ w, (W w ∧ w a = false) ∧ w b = true := fun ⟨w, hw, wb⟩ => q ⟨w, hw.1, wb⟩
      rw [if_neg p, if_neg q, if_neg r, if_neg t]
theorem cnt_perm {L L' : List S} (p : L.Perm L') : ∀ {W : Ch S → Prop}, Sb W → cnt L W = cnt L' W := by
  induction p with
  | nil => intro W _; rfl
  | cons a p ih => intro W h; unfold cnt; rw [ih (h.cut a)]
  | swap a b l =>
    intro W h
    unfold cnt
    unfold cnt
    have e : (fun w => (W w ∧ w b = false) ∧ w a = false) = (fun w => (W w ∧ w a = false) ∧ w b = false) := by
      funext w; exact propext ⟨fun z => ⟨⟨z.1.1, z.2⟩, z.1.2⟩, fun z => ⟨⟨z.1.1, z.2⟩, z.1.2⟩⟩
    rw [e, ← Nat.add_assoc, ← Nat.add_assoc, cnt_swap h b a]
  | trans _ _ ih1 ih2 => intro W h; rw [ih1 h, ih2 h]

/-- the sums of some chains -/
def Spn : List (Ch S) → Ch S → Prop
  | [], x => x = cz
  | r :: R, x => Spn R x ∨ Spn R (ca r x)
theorem Spn.sb : ∀ R : List (Ch S), Sb (Spn R)
  | [] => ⟨rfl, fun x y hx hy => by
      have hx : x = cz := hx
      have hy : y = cz := hy
      subst hx hy
      show ca cz cz = cz
      rw [ca_self]⟩
  | r :: R => by
    have ih := Spn.sb R
    refine ⟨.inl ih.z, fun x y hx hy => ?_⟩
    rcases hx with hx | hx <;> rcases hy with hy | hy
    · exact .inl (ih.a _ _ hx hy)
    · refine .inr ?_
      have := ih.a _ _ hx hy
      rw [← ca_assoc, ca_comm x r, ca_assoc] at this
      exact this
    · refine .inr ?_
      have := ih.a _ _ hx hy
      rw [ca_assoc] at this
      exact this
    · refine .inl ?_
      have := ih.a _ _ hx hy
      rw [ca_comm r x, ca_assoc, ca_ca] at this
      exact this
theorem Spn.mem : ∀ {R : List (Ch S)} {r : Ch S}, r ∈ R → Spn R r
  | q :: R, r, h => by
    rcases List.mem_cons.mp h with e | h
    · subst e
      refine .inr ?_
      rw [ca_self]
      exact (Spn.sb R).z
    · exact .inl (Spn.mem h)
theorem Spn.le {W : Ch S → Prop} (hW : Sb W) : ∀ {R : List (Ch S)}, (∀ r ∈ R, W r) → ∀ {x}, Spn R x → W x
  | [], _, x, h => by
    have h : x = cz := h
    subst h
    exact hW.z
  | r :: R, hr, x, h => by
    have ih := fun {x} => Spn.le hW (R := R) (fun r q => hr r (List.mem_cons_of_mem _ q)) (x := x)
    rcases h with h | h
    · exact ih h
    · have := hW.a _ _ (hr r List.mem_cons_self) (ih h)
      rw [ca_ca] at this
      exact this
theorem Spn.mono {R R' : List (Ch S)} (h : ∀ r ∈ R, Spn R' r) {x : Ch S} (hx : Spn R x) : Spn R' x := Spn.le (Spn.sb R') h hx
theorem Spn.sub {R R' : List (Ch S)} (h : ∀ r ∈ R, r ∈ R') {x : Ch S} (hx : Spn R x) : Spn R' x := Spn.mono (fun r q => Spn.mem (h r q)) hx
theorem Spn.ext {R R' : List (Ch S)} (h : ∀ r ∈ R, Spn R' r) (h' : ∀ r ∈ R', Spn R r) : Spn R = Spn R' := by
  funext x; exact propext ⟨fun z => Spn.mono h z, fun z => Spn.mono h' z⟩
theorem Spn.vanish {R : List (Ch S)} {a : S} (h : ∀ r ∈ R, r a = false) {x : Ch S} (hx : Spn R x) : x a = false :=
  Spn.le (W := fun x => x a = false) ⟨rfl, fun x y p q => by simp [ca, p, q]⟩ h hx

/-- the leading place, the list from the top -/
def tp (L : List S) (x : Ch S) : Option S := L.find? fun s => x s
theorem tp_cons_true {L : List S} {a : S} {x : Ch S} (h : x a = true) : tp (a :: L) x = some a := by simp [tp, h]
theorem tp_cons_false {L : List S} {a : S} {x : Ch S} (h : x a = false) : tp (a :: L) x = tp L x := by simp [tp, h]
theorem tp_some {L : List S} {a : S} {x : Ch S} (h : tp L x = some a) : a ∈ L ∧ x a = true := ⟨List.mem_of_find?_eq_some h, by simpa using List.find?_some h⟩
theorem tp_none {L : List S} {x : Ch S} (h : tp L x = none) : ∀ s ∈ L, x s = false := fun s hs => by simpa using List.find?_eq_none.mp h s hs

structure Ech (L : List S) (R : List (Ch S)) : Prop where
  some : ∀ r ∈ R, (tp L r).isSome = true
  nod : (R.map (tp L)).Nodup
theorem Ech.filter {L : List S} {R : List (Ch S)} (E : Ech L R) (p : Ch S → Bool) : Ech L (R.filter p) :=
  ⟨fun r hr => E.some r (List.mem_filter.mp hr).1, E.nod.sublist (List.filter_sublist.map _)⟩
theorem Ech.tail {L : List S} {a : S} {R : List (Ch S)} (E : Ech (a :: L) R) (h : ∀ r ∈ R, r a = false) : Ech L R := by
  have e : R.map (tp (a :: L)) = R.map (tp L) := List.map_congr_left fun r hr => tp_cons_false (h r hr)
  exact ⟨fun r hr => by rw [← tp_cons_false (h r hr)]; exact E.some r hr, by rw [← e]; exact E.nod⟩
theorem Ech.peel {L : List S} {a : S} : ∀ {R : List (Ch S)}, Ech (a :: L) R → (fun w => Spn R w ∧ w a = false) = Spn (R.filter fun r => !r a)
  | [], _ => by
    funext x
    refine propext ⟨fun h => h.1, fun h => ⟨h, ?_⟩⟩
    have h : x = cz := h
    subst h
    rfl
  | r :: R, E => by
    have E' : Ech (a :: L) R := ⟨fun q hq => E.some q (List.mem_cons_of_mem _ hq), (List.nodup_cons.mp (by simpa using E.nod)).2⟩
    have ih := Ech.peel E'
    cases ha : r a with
    | true =>
      have hv : ∀ q ∈ R, q a = false := fun q hq => by
        cases hqa : q a with
        | false => rfl
        | true =>
          have h1 := (List.nodup_cons.mp (show (tp (a :: L) r :: R.map (tp (a :: L))).Nodup from by simpa using E.nod)).1
          exact absurd (List.mem_map.mpr ⟨q, hq, by rw [tp_cons_true hqa, tp_cons_true ha]⟩) h1
      have ef : (r :: R).filter (fun r => !r a) = R := by
        rw [List.filter_cons_of_neg (by simp [ha])]
        exact List.filter_eq_self.mpr fun q hq => by simp [hv q hq]
      rw [ef]
      funext x
      refine propext ⟨fun ⟨h, hx⟩ => ?_, fun h => ⟨.inl h, Spn.vanish hv h⟩⟩
      rcases h with h | h
      · exact h
      · have := Spn.vanish hv h
        simp [ca, ha, hx] at this
    | false =>
      have ef : (r :: R).filter (fun r => !r a) = r :: R.filter (fun r => !r a) := List.filter_cons_of_pos (by simp [ha])
      rw [ef]
      funext x
      have ih1 := fun x => congrFun ih x
      refine propext ⟨fun ⟨h, hx⟩ => ?_, fun h => ?_⟩
      · rcases h with h | h
        · exact .inl ((ih1 x) ▸ ⟨h, hx⟩)
        · exact .inr ((ih1 (ca r x)) ▸ ⟨h, by simp [ca, ha, hx]⟩)
      · rcases h with h | h
        · have := (ih1 x).symm ▸ h
          exact ⟨.inl this.1, this.2⟩
        · have := (ih1 (ca r x)).symm ▸ h
          refine ⟨.inr this.1, ?_⟩
          simpa [ca, ha] using this.2
theorem Ech.one {L : List S} {a : S} : ∀ {R : List (Ch S)}, Ech (a :: L) R → R.length = (if ∃ r, r ∈ R ∧ r a = true then 1 else 0) + (R.filter fun r => !r a).length
  | [], _ => by simp
  | r :: R, E => by
    have E' : Ech (a :: L) R := ⟨fun q hq => E.some q (List.mem_cons_of_mem _ hq), (List.nodup_cons.mp (by simpa using E.nod)).2⟩
    have ih := Ech.one E'
    cases ha : r a with
    | true =>
      have hv : ∀ q ∈ R, q a = false := fun q hq => by
        cases hqa : q a with
        | false => rfl
        | true =>
          have h1 := (List.nodup_cons.mp (show (tp (a :: L) r :: R.map (tp (a :: L))).Nodup from by simpa using E.nod)).1
          exact absurd (List.mem_map.mpr ⟨q, hq, by rw [tp_cons_true hqa, tp_cons_true ha]⟩) h1
      rw [if_pos ⟨r, List.mem_cons_self, ha⟩, List.filter_cons_of_neg (by simp [ha])]
      rw [List.filter_eq_self.mpr fun q hq => by simp [hv q hq]]
      simp [Nat.add_comm]
    | false =>
      rw [List.filter_cons_of_pos (by simp [ha])]
      have e : (∃ q, q ∈ r :: R ∧ q a = true) ↔ ∃ q, q ∈ R ∧ q a = true := by
        constructor
        · rintro ⟨q, hq, h⟩
          rcases List.mem_cons.mp hq with e | hq
          · subst e; rw [ha] at h; cases h
          · exact ⟨q, hq, h⟩
        · rintro ⟨q, hq, h⟩
          exact ⟨q, List.mem_cons_of_mem _ hq, h⟩
      simp only [e, List.length_cons]
      omega
open Classical in
theorem cnt_ech : ∀ {L : List S} {R : List (Ch S)}, Ech L R → cnt L (Spn R) = R.length
  | [], R, E => by
    cases R with
    | nil => rfl
    | cons r R => have := E.some r List.mem_cons_self; simp [tp] at this
  | a :: L, R, E => by
    have E' : Ech L (R.filter fun r => !r a) := (E.filter _).tail fun r hr => by simpa using (List.mem_filter.mp hr).2
    unfold cnt
    rw [E.peel, cnt_ech E', E.one]
    have e : (∃ w, Spn R w ∧ w a = true) ↔ ∃ r, r ∈ R ∧ r a = true := by
      constructor
      · rintro ⟨w, h, ha⟩
        apply Classical.byContradiction
        intro hn
        have : w a = false := Spn.vanish (fun r hr => by
          cases h : r a with
          | false => rfl
          | true => exact absurd ⟨r, hr, h⟩ hn) h
        rw [ha] at this; cases this
      · rintro ⟨r, hr, h⟩
        exact ⟨r, Spn.mem hr, h⟩
    by_cases h : ∃ r, r ∈ R ∧ r a = true
    · rw [if_pos h, if_pos (e.mpr h)]
    · rw [if_neg h, if_neg (fun z => h (e.mp z))]
/-- below a place: A is above, B below -/
theorem cnt_below : ∀ {A B : List S} {R : List (Ch S)}, Ech (A ++ B) R →
    cnt B (fun w => Spn R w ∧ ∀ a ∈ A, w a = false) = (R.filter fun r => A.all fun a => !r a).length
  | [], B, R, E => by
    have e : (fun w => Spn R w ∧ ∀ a ∈ ([] : List S), w a = false) = Spn R := by
      funext w; exact propext ⟨fun z => z.1, fun z => ⟨z, fun a h => nomatch h⟩⟩
    have E : Ech B R := E
    rw [e, cnt_ech E]
    rw [List.filter_eq_self.mpr fun q hq => by simp]
  | a :: A, B, R, E => by
    have E' : Ech (A ++ B) (R.filter fun r => !r a) := (E.filter _).tail fun r hr => by simpa using (List.mem_filter.mp hr).2
    have ih := cnt_below E'
    have pe := fun w => congrFun (Ech.peel E) w
    have e : (fun w => Spn R w ∧ ∀ b ∈ a :: A, w b = false) = (fun w => Spn (R.filter fun r => !r a) w ∧ ∀ b ∈ A, w b = false) := by
      funext w
      rw [← pe w]
      refine propext ⟨fun ⟨h, q⟩ => ⟨⟨h, q a List.mem_cons_self⟩, fun b hb => q b (List.mem_cons_of_mem _ hb)⟩, fun ⟨⟨h, q⟩, r⟩ => ⟨h, fun b hb => ?_⟩⟩
      rcases List.mem_cons.mp hb with e | hb
      · rw [e]; exact q
      · exact r b hb
    rw [e, ih, List.filter_filter]
    congr 1
    apply List.filter_congr
    intro r _
    simp [Bool.and_comm]
/-- what leads elsewhere is no sum -/
theorem Ech.indep {L : List S} {r : Ch S} {R : List (Ch S)} (E : Ech L (r :: R)) : ¬ Spn R r := fun h => by
  have E' : Ech L R := ⟨fun q hq => E.some q (List.mem_cons_of_mem _ hq), (List.nodup_cons.mp (by simpa using E.nod)).2⟩
  have e : Spn (r :: R) = Spn R := Spn.ext (fun q hq => by
    rcases List.mem_cons.mp hq with e | hq
    · rw [e]; exact h
    · exact Spn.mem hq) fun q hq => Spn.mem (List.mem_cons_of_mem _ hq)
  have h1 := cnt_ech E
  have h2 := cnt_ech E'
  rw [e, h2] at h1
  simp at h1
end
end G98
namespace G98
/-! reduced columns over an order, and what does not hang on the order -/
section
variable {S : Type} [DecidableEq S]
theorem nodup_map_on {α β : Type} {f : α → β} {l : List α} (h : l.Nodup) (hf : ∀ a ∈ l, ∀ b ∈ l, f a = f b → a = b) : (l.map f).Nodup := by
  rw [List.Nodup, List.pairwise_map]
  exact List.Pairwise.imp_of_mem (fun {a b} ha hb hne e => hne (hf a ha b hb e)) h
theorem sorted_cut {α : Type} {h : α → Nat} {d : Nat} : ∀ {l : List α}, l.Pairwise (fun a b => h a ≤ h b) → l = l.filter (fun a => decide (h a < d)) ++ l.filter (fun a => !decide (h a < d))
  | [], _ => rfl
  | a :: l, p => by
    obtain ⟨p1, p2⟩ := List.pairwise_cons.mp p
    have ih := sorted_cut (d := d) p2
    by_cases ha : h a < d
    · rw [List.filter_cons_of_pos (by simpa using ha), List.filter_cons_of_neg (by simpa using ha), List.cons_append, ← ih]
    · have e1 : l.filter (fun a => decide (h a < d)) = [] := List.filter_eq_nil_iff.mpr fun b hb => by have := p1 b hb; simp; omega
      have e2 : l.filter (fun a => !decide (h a < d)) = l := List.filter_eq_self.mpr fun b hb => by have := p1 b hb; simp; omega
      rw [List.filter_cons_of_neg (by simpa using ha), List.filter_cons_of_pos (by simpa using ha), e1, e2]
      rfl

structure Red (L : List S) (dg : S → Nat) (bd R : S → Ch S) : Prop where
  nod : L.Nodup
  sup : ∀ t ∈ L, ∀ s, bd t s = true → s ∈ L ∧ dg s + 1 = dg t
  red : ∀ P t Q, L = P ++ t :: Q → Spn ((P.filter fun s => decide (dg s = dg t)).map R) (ca (R t) (bd t))
  inj : ∀ s ∈ L, ∀ t ∈ L, ∀ a, tp L.reverse (R s) = some a → tp L.reverse (R t) = some a → s = t
variable {L : List S} {dg : S → Nat} {bd R : S → Ch S}
theorem Red.same (D : Red L dg bd R) (l : Nat) : ∀ (n : Nat) (P Q : List S), P.length = n → L = P ++ Q → Spn ((P.filter fun s => decide (dg s = l)).map R) = Spn ((P.filter fun s => decide (dg s = l)).map bd)
  | 0, P, Q, hn, _ => by
    rw [List.length_eq_zero_iff.mp hn]
    rfl
  | n + 1, P, Q, hn, hL => by
    obtain ⟨P', t, rfl⟩ : ∃ P' t, P = P' ++ [t] := by
      rcases List.eq_nil_or_concat P with e | ⟨P', t, e⟩
      · subst e; simp at hn
      · exact ⟨P', t, by simpa using e⟩
    have hn' : P'.length = n := by simpa using hn
    have hL' : L = P' ++ t :: Q := by rw [hL, List.append_assoc]; rfl
    have ih := D.same l n P' (t :: Q) hn' hL'
    have rd := D.red P' t Q hL'
    by_cases ht : dg t = l
    · subst ht
      rw [List.filter_append, List.filter_cons_of_pos (by simp), List.filter_nil, List.map_append, List.map_append]
      generalize hA : (P'.filter fun s => decide (dg s = dg t)).map R = A at ih rd
      generalize hB : (P'.filter fun s => decide (dg s = dg t)).map bd = B at ih
      have up : ∀ {A : List (Ch S)} {c x : Ch S}, Spn A x → Spn (A ++ [c]) x := fun h => Spn.sub (fun r hr => List.mem_append_left _ hr) h
      have last : ∀ {A : List (Ch S)} {c : Ch S}, Spn (A ++ [c]) c := Spn.mem (List.mem_append_right _ List.mem_cons_self)
      refine Spn.ext (fun r hr => ?_) (fun r hr => ?_)
      · rcases List.mem_append.mp hr with h | h
        · exact up (ih ▸ Spn.mem h)
        · have e : r = R t := by simpa using h
          subst e
          have := (Spn.sb (B ++ [bd t])).a _ _ (up (A := B) (ih ▸ rd)) last
          rw [ca_assoc, ca_self, ca_zero] at this
          exact this
      · rcases List.mem_append.mp hr with h | h
        · exact up (ih ▸ Spn.mem h)
        · have e : r = bd t := by simpa using h
          subst e
          have := (Spn.sb (A ++ [R t])).a _ _ last (up (A := A) rd)
          rw [ca_ca] at this
          exact this
    · rw [List.filter_append, List.filter_cons_of_neg (by simpa using ht), List.filter_nil, List.append_nil]
      exact ih
theorem Red.upto (D : Red L dg bd R) {P Q : List S} {t : S} (hL : L = P ++ t :: Q) : Spn (((P ++ [t]).filter fun s => decide (dg s = dg t)).map bd) (R t) := by
  rw [← D.same (dg t) _ (P ++ [t]) Q rfl (by rw [hL, List.append_assoc]; rfl)]
  exact Spn.mem (List.mem_map.mpr ⟨t, List.mem_filter.mpr ⟨by simp, by simp⟩, rfl⟩)
theorem Red.rsup (D : Red L dg bd R) {t s : S} (ht : t ∈ L) (h : R t s = true) : s ∈ L ∧ dg s + 1 = dg t := by
  obtain ⟨P, Q, hL⟩ := List.append_of_mem ht
  have := Spn.le (W := fun x => ∀ s, x s = true → s ∈ L ∧ dg s + 1 = dg t) ⟨(fun s z => by cases z), fun x y hx hy s z => ?_⟩ (fun r hr => ?_) (D.upto hL)
  · exact this s h
  · cases q : x s with
    | true => exact hx s q
    | false =>
      have z : (x s).xor (y s) = true := z
      rw [q] at z
      exact hy s (by simpa using z)
  · obtain ⟨a, ha, e⟩ := List.mem_map.mp hr
    subst e
    have h1 := List.mem_filter.mp ha
    intro s z
    have hal : a ∈ L := by
      rw [hL]
      rcases List.mem_append.mp h1.1 with q | q
      · exact List.mem_append_left _ q
      · exact List.mem_append_right _ (by simp at q; simp [q])
    have := D.sup a hal s z
    have e2 : dg a = dg t := by simpa using h1.2
    exact ⟨this.1, by rw [← e2]; exact this.2⟩
theorem Red.zero (D : Red L dg bd R) {t : S} (ht : t ∈ L) (h : tp L.reverse (R t) = none) : R t = cz := by
  funext s
  cases q : R t s with
  | false => rfl
  | true =>
    have := tp_none h s (List.mem_reverse.mpr (D.rsup ht q).1)
    rw [q] at this; cases this
theorem Red.ech (D : Red L dg bd R) {G : List S} (hG : ∀ t ∈ G, t ∈ L) (hn : G.Nodup) : Ech L.reverse ((G.filter fun t => (tp L.reverse (R t)).isSome).map R) := by
  refine ⟨fun r hr => ?_, ?_⟩
  · obtain ⟨t, ht, e⟩ := List.mem_map.mp hr
    subst e
    exact (List.mem_filter.mp ht).2
  · rw [List.map_map]
    refine nodup_map_on (hn.sublist List.filter_sublist) fun a ha b hb e => ?_
    obtain ⟨ha1, ha2⟩ := List.mem_filter.mp ha
    obtain ⟨hb1, hb2⟩ := List.mem_filter.mp hb
    obtain ⟨x, hx⟩ := Option.isSome_iff_exists.mp ha2
    have e : tp L.reverse (R a) = tp L.reverse (R b) := e
    exact D.inj a (hG a ha1) b (hG b hb1) x hx (by rw [← e]; exact hx)
theorem Red.live (D : Red L dg bd R) {G : List S} (hG : ∀ t ∈ G, t ∈ L) : Spn (G.map R) = Spn ((G.filter fun t => (tp L.reverse (R t)).isSome).map R) := by
  refine Spn.ext (fun r hr => ?_) (fun r hr => ?_)
  · obtain ⟨t, ht, e⟩ := List.mem_map.mp hr
    subst e
    cases q : tp L.reverse (R t) with
    | none => rw [D.zero (hG t ht) q]; exact (Spn.sb _).z
    | some a => exact Spn.mem (List.mem_map.mpr ⟨t, List.mem_filter.mpr ⟨ht, by rw [q]; rfl⟩, rfl⟩)
  · obtain ⟨t, ht, e⟩ := List.mem_map.mp hr
    subst e
    exact Spn.mem (List.mem_map.mpr ⟨t, (List.mem_filter.mp ht).1, rfl⟩)

/-- the pairs, by the filling one -/
def PL (L : List S) (R : S → Ch S) : List (S × S) := L.filterMap fun t => (tp L.reverse (R t)).map fun s => (s, t)
def NN (L : List S) (dg : S → Nat) (R : S → Ch S) (h : S → Nat) (l b d : Nat) : Nat := (L.filter fun t => decide (dg t = l) && decide (h t < d) && (match tp L.reverse (R t) with | some s => decide (h s < b) | none => false)).length
noncomputable def cntN (L : List S) (dg : S → Nat) (bd : S → Ch S) (h : S → Nat) (l b d : Nat) : Nat :=
  cnt (L.filter fun s => decide (h s < b)) fun w => Spn ((L.filter fun t => decide (dg t = l) && decide (h t < d)).map bd) w ∧ ∀ a ∈ L, ¬ h a < b → w a = false
theorem cutsb {W : Ch S → Prop} (hW : Sb W) (L : List S) (p : S → Prop) : Sb fun w => W w ∧ ∀ a ∈ L, p a → w a = false :=
  ⟨⟨hW.z, fun _ _ _ => rfl⟩, fun x y hx hy => ⟨hW.a _ _ hx.1 hy.1, fun a ha hp => by simp [ca, hx.2 a ha hp, hy.2 a ha hp]⟩⟩
theorem cntN_perm {L' : List S} {h : S → Nat} {l b d : Nat} (p : L.Perm L') : cntN L dg bd h l b d = cntN L' dg bd h l b d := by
  unfold cntN
  rw [cnt_perm (p.filter _) (cutsb (Spn.sb _) L fun a => ¬ h a < b)]
  congr 1
  funext w
  have e : Spn ((L.filter fun t => decide (dg t = l) && decide (h t < d)).map bd) = Spn ((L'.filter fun t => decide (dg t = l) && decide (h t < d)).map bd) :=
    Spn.ext (fun r hr => Spn.mem (((p.filter _).map bd).mem_iff.mp hr)) fun r hr => Spn.mem (((p.filter _).map bd).mem_iff.mpr hr)
  rw [e]
  exact propext ⟨fun z => ⟨z.1, fun a ha => z.2 a (p.mem_iff.mpr ha)⟩, fun z => ⟨z.1, fun a ha => z.2 a (p.mem_iff.mp ha)⟩⟩
theorem tp_append {A B : List S} {x : Ch S} : tp (A ++ B) x = (tp A x).or (tp B x) := List.find?_append
theorem NN_eq (D : Red L dg bd R) {h : S → Nat} (hs : L.Pairwise fun a b => h a ≤ h b) (l b d : Nat) : NN L dg R h l b d = cntN L dg bd h l b d := by
  have c1 := sorted_cut (d := d) hs
  have c2 := sorted_cut (d := b) hs
  generalize hP1 : L.filter (fun a => decide (h a < d)) = P1 at c1
  generalize hQ1 : L.filter (fun a => !decide (h a < d)) = Q1 at c1
  have s1 := D.same l _ P1 Q1 rfl c1
  have hG : (L.filter fun t => decide (dg t = l) && decide (h t < d)) = P1.filter fun s => decide (dg s = l) := by
    rw [← hP1, List.filter_filter]
  have hGL : ∀ t ∈ P1.filter (fun s => decide (dg s = l)), t ∈ L := fun t ht => by
    rw [c1]
    exact List.mem_append_left _ (List.mem_filter.mp ht).1
  have hGn : (P1.filter fun s => decide (dg s = l)).Nodup := by
    rw [← hP1]
    exact (D.nod.sublist List.filter_sublist).sublist List.filter_sublist
  have E := D.ech hGL hGn
  have lv := D.live hGL
  unfold cntN
  rw [hG, ← s1, lv]
  have rv : L.reverse = (L.filter fun a => !decide (h a < b)).reverse ++ (L.filter fun a => decide (h a < b)).reverse := by
    rw [← List.reverse_append, ← c2]
  have cb := cnt_below (A := (L.filter fun a => !decide (h a < b)).reverse) (B := (L.filter fun a => decide (h a < b)).reverse) (by rw [← rv]; exact E)
  rw [← cnt_perm (List.reverse_perm (L.filter fun a => decide (h a < b))) (cutsb (Spn.sb _) L fun a => ¬ h a < b)]
  have ew : (fun w => Spn ((((P1.filter fun s => decide (dg s = l)).filter fun t => (tp L.reverse (R t)).isSome)).map R) w ∧ ∀ a ∈ L, ¬ h a < b → w a = false) =
      (fun w => Spn ((((P1.filter fun s => decide (dg s = l)).filter fun t => (tp L.reverse (R t)).isSome)).map R) w ∧ ∀ a ∈ (L.filter fun a => !decide (h a < b)).reverse, w a = false) := by
    funext w
    refine propext ⟨fun z => ⟨z.1, fun a ha => ?_⟩, fun z => ⟨z.1, fun a ha hb => z.2 a ?_⟩⟩
    · have := List.mem_filter.mp (List.mem_reverse.mp ha)
      exact z.2 a this.1 (by simpa using this.2)
    · exact List.mem_reverse.mpr (List.mem_filter.mpr ⟨ha, by simpa using hb⟩)
  rw [ew, cb, List.filter_map, List.length_map, ← hG, List.filter_filter, List.filter_filter]
  unfold NN
  congr 1
  apply List.filter_congr
  intro t ht
  simp only [Function.comp]
  have key : (match tp L.reverse (R t) with | some s => decide (h s < b) | none => false) = (((L.filter fun a => !decide (h a < b)).reverse.all fun a => !(R t) a) && (tp L.reverse (R t)).isSome) := by
    cases q : tp L.reverse (R t) with
    | none => simp
    | some s =>
      have q0 := q
      rw [rv, tp_append] at q
      show decide (h s < b) = _
      simp only [Option.isSome_some, Bool.and_true]
      cases qa : tp (L.filter fun a => !decide (h a < b)).reverse (R t) with
      | none =>
        rw [qa] at q
        have hm := tp_some (show tp _ (R t) = some s from q)
        have hb : h s < b := by simpa using (List.mem_filter.mp (List.mem_reverse.mp hm.1)).2
        rw [decide_eq_true hb]
        refine (List.all_eq_true.mpr fun a ha => ?_).symm
        rw [tp_none qa a ha]
        rfl
      | some s' =>
        rw [qa] at q
        have e : s' = s := Option.some.inj q
        subst e
        have hm := tp_some qa
        have hb : ¬ h s' < b := by simpa using (List.mem_filter.mp (List.mem_reverse.mp hm.1)).2
        rw [decide_eq_false hb]
        symm
        rw [List.all_eq_false]
        exact ⟨s', hm.1, by simp [hm.2]⟩
  rw [key]
  cases decide (dg t = l) <;> cases decide (h t < d) <;> simp
theorem NN_perm {L' : List S} {R' : S → Ch S} (D : Red L dg bd R) (D' : Red L' dg bd R') {h : S → Nat} (hs : L.Pairwise fun a b => h a ≤ h b) (hs' : L'.Pairwise fun a b => h a ≤ h b) (p : L.Perm L') (l b d : Nat) :
    NN L dg R h l b d = NN L' dg R' h l b d := by
  rw [NN_eq D hs, NN_eq D' hs', cntN_perm p]

/-- the values of the pairs whose filler has a length -/
def PK (L : List S) (dg : S → Nat) (R : S → Ch S) (h : S → Nat) (l : Nat) : List (Nat × Nat) := ((PL L R).filter fun p => decide (dg p.2 = l)).map fun p => (h p.1, h p.2)
theorem NN_PK {h : S → Nat} (l b d : Nat) : NN L dg R h l b d = (PK L dg R h l).countP fun p => decide (p.1 < b) && decide (p.2 < d) := by
  unfold NN PK PL
  rw [List.countP_map, List.countP_filter]
  rw [List.countP_eq_length_filter.symm]
  rw [List.countP_filterMap]
  apply List.countP_congr
  intro t ht
  cases q : tp L.reverse (R t) with
  | none => simp [q]
  | some s => simp [q, Function.comp, and_assoc, and_comm, and_left_comm]
theorem incl_excl (x y : Nat) : ∀ l : List (Nat × Nat), l.count (x, y) + (l.countP fun p => decide (p.1 < x) && decide (p.2 < y + 1)) + (l.countP fun p => decide (p.1 < x + 1) && decide (p.2 < y)) =
    (l.countP fun p => decide (p.1 < x + 1) && decide (p.2 < y + 1)) + (l.countP fun p => decide (p.1 < x) && decide (p.2 < y))
  | [] => rfl
  | (a, b) :: l => by
    have ih := incl_excl x y l
    simp only [List.count_cons, List.countP_cons]
    have e : ((a, b) == (x, y)) = (decide (a = x) && decide (b = y)) := by
      rw [Bool.eq_iff_iff]; simp
    rw [e]
    by_cases h1 : a < x
    · have h2 : a < x + 1 := by omega
      have h3 : ¬ a = x := by omega
      by_cases h4 : b < y <;> by_cases h5 : b < y + 1 <;> by_cases h6 : b = y <;> simp [h1, h2, h3, h4, h5, h6] <;> omega
    · by_cases h2 : a < x + 1
      · have h3 : a = x := by omega
        by_cases h4 : b < y <;> by_cases h5 : b < y + 1 <;> by_cases h6 : b = y <;> simp [h1, h2, h3, h4, h5, h6] <;> omega
      · have h3 : ¬ a = x := by omega
        by_cases h4 : b < y <;> by_cases h5 : b < y + 1 <;> by_cases h6 : b = y <;> simp [h1, h2, h3, h4, h5, h6] <;> omega
theorem PK_perm {L' : List S} {R' : S → Ch S} (D : Red L dg bd R) (D' : Red L' dg bd R') {h : S → Nat} (hs : L.Pairwise fun a b => h a ≤ h b) (hs' : L'.Pairwise fun a b => h a ≤ h b) (p : L.Perm L') (l : Nat) :
    (PK L dg R h l).Perm (PK L' dg R' h l) := by
  refine List.perm_iff_count.mpr fun a => ?_
  obtain ⟨x, y⟩ := a
  have e1 := incl_excl x y (PK L dg R h l)
  have e2 := incl_excl x y (PK L' dg R' h l)
  simp only [← NN_PK] at e1 e2
  simp only [NN_perm D D' hs hs' p] at e1
  omega
end
end G98
namespace G98
/-! makers and fillers are apart; the row of all pairs of a length -/
section
variable {S : Type} [DecidableEq S]
def exd (L : List S) (bd : S → Ch S) (x : Ch S) : Ch S := L.foldr (fun a acc => if x a = true then ca (bd a) acc else acc) cz
theorem exd_nil (bd : S → Ch S) (x : Ch S) : exd [] bd x = cz := rfl
theorem exd_cons (a : S) (L : List S) (bd : S → Ch S) (x : Ch S) : exd (a :: L) bd x = if x a = true then ca (bd a) (exd L bd x) else exd L bd x := rfl
theorem exd_ca (bd : S → Ch S) (x y : Ch S) : ∀ L : List S, exd L bd (ca x y) = ca (exd L bd x) (exd L bd y)
  | [] => (ca_self cz).symm
  | a :: L => by
    have ih := exd_ca bd x y L
    rw [exd_cons, exd_cons, exd_cons, ih, ca_ap]
    cases x a <;> cases y a <;> simp
    · rw [← ca_assoc, ca_comm (bd a), ca_assoc]
    · rw [ca_assoc]
    · rw [ca_assoc, ← ca_assoc (exd L bd x) (bd a), ca_comm (exd L bd x) (bd a), ca_assoc, ca_ca]
theorem exd_zero (bd : S → Ch S) : ∀ L : List S, exd L bd cz = cz
  | [] => rfl
  | a :: L => by rw [exd_cons, exd_zero bd L]; rfl
theorem exd_append (bd : S → Ch S) (x : Ch S) : ∀ A B : List S, exd (A ++ B) bd x = ca (exd A bd x) (exd B bd x)
  | [], B => by rw [exd_nil, zero_ca]; rfl
  | a :: A, B => by
    rw [List.cons_append, exd_cons, exd_cons, exd_append bd x A B]
    split
    · rw [ca_assoc]
    · rfl
theorem exd_none (bd : S → Ch S) {x : Ch S} : ∀ {L : List S}, (∀ a ∈ L, x a = false) → exd L bd x = cz
  | [], _ => rfl
  | a :: L, h => by
    rw [exd_cons, if_neg (by rw [h a List.mem_cons_self]; simp), exd_none bd fun b hb => h b (List.mem_cons_of_mem _ hb)]
theorem exd_span (bd : S → Ch S) {x : Ch S} {G : List (Ch S)} : ∀ {L : List S}, (∀ a ∈ L, x a = true → bd a ∈ G) → Spn G (exd L bd x)
  | [], _ => (Spn.sb G).z
  | a :: L, h => by
    have ih := exd_span bd (x := x) (G := G) (L := L) fun b hb => h b (List.mem_cons_of_mem _ hb)
    rw [exd_cons]
    split
    · rename_i q
      exact (Spn.sb G).a _ _ (Spn.mem (h a List.mem_cons_self q)) ih
    · exact ih
variable {L : List S} {dg : S → Nat} {bd R : S → Ch S}
theorem Red.apart (D : Red L dg bd R) (bb : ∀ t ∈ L, exd L bd (bd t) = cz) {s t : S} (ht : t ∈ L) (h : tp L.reverse (R t) = some s) : tp L.reverse (R s) = none := by
  have hm := tp_some h
  have hsL : s ∈ L := List.mem_reverse.mp hm.1
  have hdg := (D.rsup ht hm.2).2
  obtain ⟨P, Q, hL⟩ := List.append_of_mem ht
  have z : exd L bd (R t) = cz := Spn.le (W := fun x => exd L bd x = cz) ⟨exd_zero bd L, fun x y hx hy => by rw [exd_ca, hx, hy, ca_self]⟩ (fun r hr => by
    obtain ⟨a, ha, e⟩ := List.mem_map.mp hr
    subst e
    refine bb a ?_
    rw [hL]
    rcases List.mem_append.mp (List.mem_filter.mp ha).1 with q | q
    · exact List.mem_append_left _ q
    · exact List.mem_append_right _ (by simp at q; simp [q])) (D.upto hL)
  obtain ⟨A, B, hAB⟩ := List.append_of_mem hsL
  have hBz : ∀ a ∈ B, R t a = false := fun a ha => by
    have er : L.reverse = B.reverse ++ s :: A.reverse := by rw [hAB]; simp
    rw [er, tp_append] at h
    cases q : tp B.reverse (R t) with
    | none => exact tp_none q a (List.mem_reverse.mpr ha)
    | some b =>
      rw [q] at h
      have e : b = s := Option.some.inj h
      subst e
      have hb := List.mem_reverse.mp (tp_some q).1
      have nd := D.nod
      rw [hAB] at nd
      have := (List.nodup_append.mp nd).2.1
      exact absurd hb (List.nodup_cons.mp this).1
  have z2 : ca (exd A bd (R t)) (bd s) = cz := by
    rw [hAB, exd_append, exd_cons, if_pos hm.2, exd_none bd hBz, ca_zero] at z
    exact z
  have e1 : bd s = exd A bd (R t) := by
    have := congrArg (ca (exd A bd (R t))) z2
    rw [ca_ca, ca_zero] at this
    exact this
  have sp : Spn ((A.filter fun a => decide (dg a = dg s)).map bd) (bd s) := by
    rw [e1]
    refine exd_span bd fun a ha hx => List.mem_map.mpr ⟨a, List.mem_filter.mpr ⟨ha, ?_⟩, rfl⟩
    have := (D.rsup ht hx).2
    simp; omega
  rw [← D.same (dg s) _ A (s :: B) rfl hAB] at sp
  have rd := D.red A s B hAB
  have hR : Spn ((A.filter fun a => decide (dg a = dg s)).map R) (R s) := by
    have := (Spn.sb _).a _ _ rd sp
    rw [ca_assoc, ca_self, ca_zero] at this
    exact this
  cases q : tp L.reverse (R s) with
  | none => rfl
  | some x =>
    exfalso
    have hG : ∀ a ∈ A.filter (fun a => decide (dg a = dg s)) ++ [s], a ∈ L := fun a ha => by
      rw [hAB]
      rcases List.mem_append.mp ha with z | z
      · exact List.mem_append_left _ (List.mem_filter.mp z).1
      · exact List.mem_append_right _ (by simp at z; simp [z])
    have nd := D.nod
    rw [hAB] at nd
    obtain ⟨nA, nB, nAB⟩ := List.nodup_append.mp nd
    have hAs : s ∉ A := fun z => nAB s z s List.mem_cons_self rfl
    rw [D.live fun a ha => hG a (List.mem_append_left _ ha)] at hR
    have hGs : ∀ a ∈ s :: A.filter (fun a => decide (dg a = dg s)), a ∈ L := fun a ha => hG a (by
      rcases List.mem_cons.mp ha with z | z
      · simp [z]
      · exact List.mem_append_left _ z)
    have E := D.ech hGs (List.nodup_cons.mpr ⟨fun z => hAs (List.mem_filter.mp z).1, nA.sublist List.filter_sublist⟩)
    rw [List.filter_cons_of_pos (by rw [q]; rfl), List.map_cons] at E
    exact E.indep hR

theorem filterMap_two {α β : Type} {f f1 f2 : α → Option β} : ∀ {l : List α}, (∀ a ∈ l, f a = (f1 a).or (f2 a) ∧ (f1 a = none ∨ f2 a = none)) → (l.filterMap f).Perm (l.filterMap f1 ++ l.filterMap f2)
  | [], _ => .nil
  | a :: l, h => by
    have ih := filterMap_two (f := f) (f1 := f1) (f2 := f2) (l := l) fun b hb => h b (List.mem_cons_of_mem _ hb)
    obtain ⟨e, q⟩ := h a List.mem_cons_self
    cases q1 : f1 a with
    | none =>
      cases q2 : f2 a with
      | none =>
        rw [List.filterMap_cons_none (by rw [e, q1, q2]; rfl), List.filterMap_cons_none q1, List.filterMap_cons_none q2]
        exact ih
      | some y =>
        rw [List.filterMap_cons_some (b := y) (by rw [e, q1, q2]; rfl), List.filterMap_cons_none q1, List.filterMap_cons_some q2]
        exact (ih.cons y).trans List.perm_middle.symm
    | some y =>
      have q2 : f2 a = none := by
        rcases q with q | q
        · rw [q1] at q; cases q
        · exact q
      rw [List.filterMap_cons_some (b := y) (by rw [e, q1]; rfl), List.filterMap_cons_some q1, List.filterMap_cons_none q2]
      exact ih.cons y
theorem filterMap_if {α β : Type} {p : α → Bool} {g : α → β} : ∀ l : List α, l.filterMap (fun s => if p s = true then some (g s) else none) = (l.filter p).map g
  | [] => rfl
  | a :: l => by
    have ih := filterMap_if (p := p) (g := g) l
    cases q : p a with
    | true => rw [List.filterMap_cons_some (b := g a) (by simp [q]), List.filter_cons_of_pos q, List.map_cons, ih]
    | false => rw [List.filterMap_cons_none (by simp [q]), List.filter_cons_of_neg (by simp [q]), ih]
/-- who fills s -/
def fil (L : List S) (R : S → Ch S) (s : S) : Option S := L.find? fun t => decide (tp L.reverse (R t) = some s)
theorem fil_some {s t : S} (h : fil L R s = some t) : t ∈ L ∧ tp L.reverse (R t) = some s := ⟨List.mem_of_find?_eq_some h, by simpa using List.find?_some h⟩
theorem fil_none {s : S} (h : fil L R s = none) : ∀ t ∈ L, tp L.reverse (R t) ≠ some s := fun t ht => by simpa using List.find?_eq_none.mp h t ht
theorem Red.filled (D : Red L dg bd R) {s t : S} (ht : t ∈ L) (h : tp L.reverse (R t) = some s) : fil L R s = some t := by
  cases q : fil L R s with
  | none => exact absurd h (fil_none q t ht)
  | some u =>
    have := fil_some q
    rw [D.inj u this.1 t ht s this.2 h]
/-- all pairs whose maker has a length -/
def BL (L : List S) (dg : S → Nat) (R : S → Ch S) (h : S → Nat) (k : Nat) : List (Nat × Option Nat) := L.filterMap fun s => if dg s = k then
  (match fil L R s with | some t => some (h s, some (h t)) | none => if (tp L.reverse (R s)).isSome then none else some (h s, none)) else none
def PS (L : List S) (R : S → Ch S) : List (S × S) := L.filterMap fun s => (fil L R s).map fun t => (s, t)
theorem nodup_filterMap {α β : Type} {f : α → Option β} : ∀ {l : List α}, l.Nodup → (∀ a ∈ l, ∀ b ∈ l, ∀ y, f a = some y → f b = some y → a = b) → (l.filterMap f).Nodup
  | [], _, _ => List.nodup_nil
  | a :: l, hn, h => by
    obtain ⟨h1, h2⟩ := List.nodup_cons.mp hn
    have ih := nodup_filterMap (f := f) h2 fun a ha b hb => h a (List.mem_cons_of_mem _ ha) b (List.mem_cons_of_mem _ hb)
    cases q : f a with
    | none => rw [List.filterMap_cons_none q]; exact ih
    | some y =>
      rw [List.filterMap_cons_some q]
      refine List.nodup_cons.mpr ⟨fun z => ?_, ih⟩
      obtain ⟨b, hb, e⟩ := List.mem_filterMap.mp z
      have := h a List.mem_cons_self b (List.mem_cons_of_mem _ hb) y q e
      subst this
      exact h1 hb
theorem Red.PS_PL (D : Red L dg bd R) : (PS L R).Perm (PL L R) := by
  refine (List.perm_ext_iff_of_nodup (nodup_filterMap D.nod fun a ha b hb y e1 e2 => ?_) (nodup_filterMap D.nod fun a ha b hb y e1 e2 => ?_)).mpr fun y => ?_
  · obtain ⟨u, _, e1⟩ := Option.map_eq_some_iff.mp e1
    obtain ⟨v, _, e2⟩ := Option.map_eq_some_iff.mp e2
    rw [← e2] at e1
    exact (Prod.mk.inj e1).1
  · obtain ⟨u, _, e1⟩ := Option.map_eq_some_iff.mp e1
    obtain ⟨v, _, e2⟩ := Option.map_eq_some_iff.mp e2
    rw [← e2] at e1
    exact (Prod.mk.inj e1).2
  · obtain ⟨s, t⟩ := y
    constructor
    · intro h
      obtain ⟨a, ha, e⟩ := List.mem_filterMap.mp h
      obtain ⟨u, q, e⟩ := Option.map_eq_some_iff.mp e
      obtain ⟨rfl, rfl⟩ := Prod.mk.inj e
      have := fil_some q
      exact List.mem_filterMap.mpr ⟨u, this.1, by rw [this.2]; rfl⟩
    · intro h
      obtain ⟨a, ha, e⟩ := List.mem_filterMap.mp h
      obtain ⟨u, q, e⟩ := Option.map_eq_some_iff.mp e
      obtain ⟨rfl, rfl⟩ := Prod.mk.inj e
      exact List.mem_filterMap.mpr ⟨u, List.mem_reverse.mp (tp_some q).1, by rw [D.filled ha q]; rfl⟩
/-- the values of those that are never filled -/
def EV (L : List S) (dg : S → Nat) (R : S → Ch S) (h : S → Nat) (k : Nat) : List Nat := (L.filter fun s => decide (dg s = k) && (fil L R s).isNone && (tp L.reverse (R s)).isNone).map h
theorem Red.BL_parts (D : Red L dg bd R) (h : S → Nat) (k : Nat) : (BL L dg R h k).Perm ((PK L dg R h (k + 1)).map (fun p => (p.1, some p.2)) ++ (EV L dg R h k).map fun x => (x, none)) := by
  have st := filterMap_two (f := fun s => if dg s = k then (match fil L R s with | some t => some (h s, some (h t)) | none => if (tp L.reverse (R s)).isSome then none else some (h s, none)) else none)
    (f1 := fun s => if dg s = k then (fil L R s).map fun t => (h s, some (h t)) else none) (f2 := fun s => if (decide (dg s = k) && (fil L R s).isNone && (tp L.reverse (R s)).isNone) = true then some (h s, none) else none) (l := L) fun s _ => by
      by_cases e : dg s = k
      · cases q : fil L R s with
        | none => cases q2 : tp L.reverse (R s) <;> simp [e]
        | some t => simp [e]
      · simp [e]
  refine st.trans (List.Perm.append ?_ (List.Perm.of_eq ?_))
  · have e1 : (L.filterMap fun s => if dg s = k then (fil L R s).map fun t => (h s, some (h t)) else none) = ((PS L R).filter fun p => decide (dg p.1 = k)).map fun p => (h p.1, some (h p.2)) := by
      unfold PS
      rw [List.filter_filterMap, List.map_filterMap]
      congr 1
      funext s
      cases q : fil L R s with
      | none => simp
      | some t => by_cases e : dg s = k <;> simp [e, Option.filter]
    rw [e1]
    unfold PK
    rw [List.map_map]
    have e2 : ((PL L R).filter fun p => decide (dg p.2 = k + 1)) = (PL L R).filter fun p => decide (dg p.1 = k) := List.filter_congr fun p hp => by
      obtain ⟨a, ha, e⟩ := List.mem_filterMap.mp hp
      obtain ⟨u, q, e⟩ := Option.map_eq_some_iff.mp e
      subst e
      have := (D.rsup ha (tp_some q).2).2
      show decide (dg a = k + 1) = decide (dg u = k)
      rw [Bool.eq_iff_iff]
      simp
      omega
    rw [e2]
    exact (D.PS_PL.filter _).map _
  · unfold EV
    rw [List.map_map, filterMap_if]
    rfl
theorem count_EV (D : Red L dg bd R) (bb : ∀ t ∈ L, exd L bd (bd t) = cz) (h : S → Nat) (k x : Nat) :
    (L.countP fun s => decide (dg s = k) && decide (h s = x)) = (EV L dg R h k).count x + ((PK L dg R h (k + 1)).countP fun p => decide (p.1 = x)) + ((PK L dg R h k).countP fun p => decide (p.2 = x)) := by
  have e1 : ((PK L dg R h (k + 1)).countP fun p => decide (p.1 = x)) = L.countP fun s => decide (dg s = k) && decide (h s = x) && (fil L R s).isSome := by
    unfold PK
    rw [List.countP_map, List.countP_filter]
    have e2 : ((PL L R).countP fun p => ((fun p : Nat × Nat => decide (p.1 = x)) ∘ fun p => (h p.1, h p.2)) p && decide (dg p.2 = k + 1)) = (PL L R).countP fun p => decide (dg p.1 = k) && decide (h p.1 = x) := List.countP_congr fun p hp => by
      obtain ⟨a, ha, e⟩ := List.mem_filterMap.mp hp
      obtain ⟨u, q, e⟩ := Option.map_eq_some_iff.mp e
      subst e
      have := (D.rsup ha (tp_some q).2).2
      simp [Function.comp]
      omega
    rw [e2, ← D.PS_PL.countP_eq]
    unfold PS
    rw [List.countP_filterMap]
    apply List.countP_congr
    intro s hs
    cases q : fil L R s <;> simp
  have e3 : ((PK L dg R h k).countP fun p => decide (p.2 = x)) = L.countP fun s => decide (dg s = k) && decide (h s = x) && (tp L.reverse (R s)).isSome := by
    unfold PK PL
    rw [List.countP_map, List.countP_filter, List.countP_filterMap]
    apply List.countP_congr
    intro s hs
    cases q : tp L.reverse (R s) <;> simp [and_comm]
  have e4 : (EV L dg R h k).count x = L.countP fun s => decide (dg s = k) && decide (h s = x) && ((fil L R s).isNone && (tp L.reverse (R s)).isNone) := by
    unfold EV
    rw [List.count, List.countP_map, List.countP_filter]
    apply List.countP_congr
    intro s hs
    simp [Function.comp]
    constructor
    · rintro ⟨a, ⟨b, c⟩, d⟩; exact ⟨⟨b, a⟩, c, d⟩
    · rintro ⟨⟨b, a⟩, c, d⟩; exact ⟨a, ⟨b, c⟩, d⟩
  rw [e1, e3, e4]
  have three : ∀ (p q r t : S → Bool) (l : List S), (∀ s ∈ l, p s = true → (q s = true ∧ r s = false ∧ t s = false) ∨ (q s = false ∧ r s = true ∧ t s = false) ∨ (q s = false ∧ r s = false ∧ t s = true)) →
      l.countP p = (l.countP fun s => p s && q s) + (l.countP fun s => p s && r s) + (l.countP fun s => p s && t s) := by
    intro p q r t l
    induction l with
    | nil => intro _; rfl
    | cons a l ih =>
      intro hh
      have ih := ih fun s hs => hh s (List.mem_cons_of_mem _ hs)
      simp only [List.countP_cons]
      rw [ih]
      cases pa : p a with
      | false => simp
      | true =>
        rcases hh a List.mem_cons_self pa with ⟨a1, a2, a3⟩ | ⟨a1, a2, a3⟩ | ⟨a1, a2, a3⟩ <;> simp [a1, a2, a3] <;> omega
  refine three _ _ _ _ L fun s hs _ => ?_
  cases q : fil L R s with
  | none => cases q2 : tp L.reverse (R s) <;> simp
  | some t =>
    have f := fil_some q
    have := D.apart bb f.1 f.2
    rw [this]
    simp
theorem BL_perm {L' : List S} {R' : S → Ch S} (D : Red L dg bd R) (D' : Red L' dg bd R') (bb : ∀ t ∈ L, exd L bd (bd t) = cz) (bb' : ∀ t ∈ L', exd L' bd (bd t) = cz) {h : S → Nat} (hs : L.Pairwise fun a b => h a ≤ h b) (hs' : L'.Pairwise fun a b => h a ≤ h b) (p : L.Perm L') (k : Nat) :
    (BL L dg R h k).Perm (BL L' dg R' h k) := by
  refine (D.BL_parts h k).trans (List.Perm.trans (List.Perm.append ?_ ?_) (D'.BL_parts h k).symm)
  · exact (PK_perm D D' hs hs' p _).map _
  · refine List.Perm.map _ (List.perm_iff_count.mpr fun x => ?_)
    have e1 := count_EV D bb h k x
    have e2 := count_EV D' bb' h k x
    rw [p.countP_eq, (PK_perm D D' hs hs' p _).countP_eq, (PK_perm D D' hs hs' p k).countP_eq] at e1
    omega
end
end G98
namespace G98
/-! a reduction for every order; rows that lie close; small changes -/
section
variable {S : Type} [DecidableEq S]
theorem exd_perm {L L' : List S} {bd : S → Ch S} {x : Ch S} (p : L.Perm L') : exd L bd x = exd L' bd x := by
  induction p with
  | nil => rfl
  | cons a p ih => rw [exd_cons, exd_cons, ih]
  | swap a b l =>
    simp only [exd_cons]
    split <;> split <;> try rfl
    rw [← ca_assoc, ca_comm (bd b), ca_assoc]
  | trans _ _ h1 h2 => exact h1.trans h2
/-- how far the leading place lies from the end -/
def mea (M : List S) (x : Ch S) : Nat := (M.dropWhile fun s => !x s).length
theorem mea_lt : ∀ {M : List S} {x r : Ch S} {a : S}, tp M x = some a → tp M r = some a → mea M (ca x r) < mea M x
  | [], _, _, _, h, _ => by cases h
  | b :: M, x, r, a, h, h' => by
    cases hx : x b with
    | true =>
      have e : b = a := by rw [tp_cons_true hx] at h; exact Option.some.inj h
      subst e
      cases hr : r b with
      | true =>
        unfold mea
        have hc : ca x r b = false := by rw [ca_ap, hx, hr]; rfl
        have e1 : (b :: M).dropWhile (fun s => !x s) = b :: M := List.dropWhile_cons_of_neg (by simp [hx])
        have e2 : (b :: M).dropWhile (fun s => !(ca x r) s) = M.dropWhile (fun s => !(ca x r) s) := List.dropWhile_cons_of_pos (by simp [hc])
        rw [e1, e2]
        exact Nat.lt_succ_of_le (List.dropWhile_sublist _).length_le
      | false =>
        unfold mea
        have := (tp_some h').2
        rw [hr] at this; cases this
    | false =>
      cases hr : r b with
      | true =>
        have e : b = a := by rw [tp_cons_true hr] at h'; exact Option.some.inj h'
        subst e
        have := (tp_some h).2
        rw [hx] at this; cases this
      | false =>
        rw [tp_cons_false hx] at h
        rw [tp_cons_false hr] at h'
        have ih := mea_lt h h'
        unfold mea at ih ⊢
        have hc : ca x r b = false := by rw [ca_ap, hx, hr]; rfl
        have e1 : (b :: M).dropWhile (fun s => !x s) = M.dropWhile (fun s => !x s) := List.dropWhile_cons_of_pos (by simp [hx])
        have e2 : (b :: M).dropWhile (fun s => !(ca x r) s) = M.dropWhile (fun s => !(ca x r) s) := List.dropWhile_cons_of_pos (by simp [hc])
        rw [e1, e2]
        exact ih
theorem reduce (M : List S) (E : List (Ch S)) : ∀ (n : Nat) (x : Ch S), mea M x ≤ n → ∃ y, Spn E (ca y x) ∧ ∀ r ∈ E, ∀ a, tp M r = some a → tp M y ≠ some a
  | n, x, hn => by
    by_cases h : ∃ r, r ∈ E ∧ ∃ a, tp M r = some a ∧ tp M x = some a
    · obtain ⟨r, hr, a, h1, h2⟩ := h
      have lt := mea_lt h2 h1
      obtain ⟨m, rfl⟩ : ∃ m, n = m + 1 := ⟨n - 1, by omega⟩
      obtain ⟨y, hy, q⟩ := reduce M E m (ca x r) (by omega)
      refine ⟨y, ?_, q⟩
      have := (Spn.sb E).a _ _ hy (Spn.mem hr)
      rw [ca_assoc, ca_assoc, ca_self, ca_zero] at this
      exact this
    · refine ⟨x, by rw [ca_self]; exact (Spn.sb E).z, fun r hr a h1 h2 => h ⟨r, hr, a, h1, h2⟩⟩
theorem Spn.deg {dg : S → Nat} {R : S → Ch S} {G : List S} {l : Nat} (h : ∀ s ∈ G, dg s = l ∧ ∀ x, R s x = true → dg x + 1 = dg s) {y : Ch S} (hy : Spn (G.map R) y) : ∀ x, y x = true → dg x + 1 = l := by
  refine Spn.le (W := fun y => ∀ x, y x = true → dg x + 1 = l) ⟨fun x z => (by cases z), fun u v hu hv x z => ?_⟩ (fun r hr => ?_) hy
  · cases q : u x with
    | true => exact hu x q
    | false =>
      have z : (u x).xor (v x) = true := z
      rw [q] at z
      exact hv x (by simpa using z)
  · obtain ⟨s, hs, e⟩ := List.mem_map.mp hr
    subst e
    intro x hx
    have := h s hs
    rw [← this.1]
    exact this.2 x hx
theorem red_part {L : List S} {dg : S → Nat} {bd : S → Ch S} (hn : L.Nodup) (sup : ∀ t ∈ L, ∀ s, bd t s = true → s ∈ L ∧ dg s + 1 = dg t) : ∀ (n : Nat) (P Q : List S), P.length = n → L = P ++ Q →
    ∃ R : S → Ch S, (∀ P1 t P2, P = P1 ++ t :: P2 → Spn ((P1.filter fun s => decide (dg s = dg t)).map R) (ca (R t) (bd t))) ∧
      (∀ s ∈ P, ∀ t ∈ P, ∀ a, tp L.reverse (R s) = some a → tp L.reverse (R t) = some a → s = t) ∧ ∀ s ∈ P, ∀ x, R s x = true → dg x + 1 = dg s
  | 0, P, Q, hl, _ => by
    rw [List.length_eq_zero_iff.mp hl]
    exact ⟨fun _ => cz, fun P1 t P2 e => by simp at e, fun s hs => (by simp at hs), fun s hs => (by simp at hs)⟩
  | n + 1, P, Q, hl, hL => by
    obtain ⟨P', t, rfl⟩ : ∃ P' t, P = P' ++ [t] := by
      rcases List.eq_nil_or_concat P with e | ⟨P', t, e⟩
      · subst e; simp at hl
      · exact ⟨P', t, by simpa using e⟩
    obtain ⟨R, h1, h2, h3⟩ := red_part hn sup n P' (t :: Q) (by simpa using hl) (by rw [hL, List.append_assoc]; rfl)
    have htP : t ∉ P' := fun z => by
      rw [hL, List.append_assoc] at hn
      exact (List.nodup_append.mp hn).2.2 t z t List.mem_cons_self rfl
    have htL : t ∈ L := by rw [hL]; simp
    obtain ⟨y, hy, q⟩ := reduce L.reverse ((P'.filter fun s => decide (dg s = dg t)).map R) _ (bd t) (Nat.le_refl _)
    have ydeg : ∀ x, y x = true → dg x + 1 = dg t := fun x hx => by
      cases c : (ca y (bd t)) x with
      | true =>
        refine Spn.deg (dg := dg) (R := R) (G := P'.filter fun s => decide (dg s = dg t)) (l := dg t) (fun s hs => ?_) hy x c
        have := List.mem_filter.mp hs
        exact ⟨by simpa using this.2, h3 s this.1⟩
      | false =>
        have c : (y x).xor (bd t x) = false := c
        rw [hx] at c
        exact (sup t htL x (by simpa using c)).2
    have same : ∀ s, s ∈ P' → (if s = t then y else R s) = R s := fun s hs => if_neg (fun e => by subst e; exact htP hs)
    have smap : ∀ (G : List S), (∀ s ∈ G, s ∈ P') → G.map (fun s => if s = t then y else R s) = G.map R := fun G hG => List.map_congr_left fun s hs => same s (hG s hs)
    refine ⟨fun s => if s = t then y else R s, fun P1 u P2 e => ?_, fun s hs u hu a e1 e2 => ?_, fun s hs x hx => ?_⟩
    · rcases List.eq_nil_or_concat P2 with z | ⟨P3, v, z⟩
      · subst z
        have e' : P' = P1 ∧ t = u := by
          have := List.append_inj' e rfl
          exact ⟨this.1, by simpa using this.2⟩
        obtain ⟨rfl, rfl⟩ := e'
        rw [smap _ fun s hs => (List.mem_filter.mp hs).1]
        simp only [if_true]
        exact hy
      · have z : P2 = P3 ++ [v] := by simpa using z
        subst z
        have e2 : P' ++ [t] = (P1 ++ u :: P3) ++ [v] := by rw [e]; simp
        have := (List.append_inj' e2 rfl).1
        rw [smap _ fun s hs => by rw [this]; exact List.mem_append_left _ (List.mem_filter.mp hs).1]
        have hu : u ∈ P' := by rw [this]; simp
        have eu : (fun s => if s = t then y else R s) u = R u := same u hu
        rw [eu]
        exact h1 P1 u P3 this
    · have key : ∀ s, s ∈ P' → tp L.reverse (R s) = some a → tp L.reverse y = some a → False := fun s hs e1 e2 => by
        have d1 := h3 s hs a (tp_some e1).2
        have d2 := ydeg a (tp_some e2).2
        exact q (R s) (List.mem_map.mpr ⟨s, List.mem_filter.mpr ⟨hs, by simp; omega⟩, rfl⟩) a e1 e2
      rcases List.mem_append.mp hs with hs' | hs' <;> rcases List.mem_append.mp hu with hu' | hu'
      · simp only [same s hs'] at e1
        simp only [same u hu'] at e2
        exact h2 s hs' u hu' a e1 e2
      · have eu : u = t := by simpa using hu'
        subst eu
        simp only [same s hs'] at e1
        simp only [if_true] at e2
        exact (key s hs' e1 e2).elim
      · have es : s = t := by simpa using hs'
        subst es
        simp only [same u hu'] at e2
        simp only [if_true] at e1
        exact (key u hu' e2 e1).elim
      · have es : s = t := by simpa using hs'
        have eu : u = t := by simpa using hu'
        rw [es, eu]
    · rcases List.mem_append.mp hs with hs | hs
      · simp only [same s hs] at hx
        exact h3 s hs x hx
      · have es : s = t := by simpa using hs
        subst es
        simp only [if_true] at hx
        exact ydeg x hx
theorem red_exists {L : List S} {dg : S → Nat} {bd : S → Ch S} (hn : L.Nodup) (sup : ∀ t ∈ L, ∀ s, bd t s = true → s ∈ L ∧ dg s + 1 = dg t) : ∃ R, Red L dg bd R := by
  obtain ⟨R, h1, h2, _⟩ := red_part hn sup _ L [] rfl (by simp)
  exact ⟨R, hn, sup, h1, h2⟩
end

/-! ### rows of values that lie close -/
abbrev Bar := Nat × Option Nat
def rl (lo hi : Nat) (p q : Bar) : Prop := p.1 ≤ q.1 + lo ∧ q.1 ≤ p.1 + hi ∧ match p.2, q.2 with
  | some x, some y => x ≤ y + lo ∧ y ≤ x + hi
  | none, none => True
  | _, _ => False
def Cl (lo hi : Nat) (M N : List Bar) : Prop := ∃ Z : List (Bar × Bar), (Z.map Prod.fst).Perm M ∧ (Z.map Prod.snd).Perm N ∧ ∀ z ∈ Z, rl lo hi z.1 z.2
theorem perm_lift {α β : Type} {f : α → β} : ∀ {B C : List β}, C.Perm B → ∀ {Z : List α}, Z.map f = C → ∃ Z' : List α, Z'.Perm Z ∧ Z'.map f = B := by
  intro B C p
  induction p with
  | nil => intro Z e; exact ⟨Z, .refl _, e⟩
  | cons a p ih =>
    intro Z e
    obtain ⟨z, Z, rfl⟩ : ∃ z Z', Z = z :: Z' := by
      cases Z with
      | nil => simp at e
      | cons z Z => exact ⟨z, Z, rfl⟩
    obtain ⟨e1, e2⟩ := List.cons.inj (show f z :: Z.map f = _ from e)
    obtain ⟨Z', p', e'⟩ := ih e2
    exact ⟨z :: Z', p'.cons z, by rw [List.map_cons, e1, e']⟩
  | swap a b l =>
    intro Z e
    obtain ⟨z1, z2, Z, rfl⟩ : ∃ z1 z2 Z', Z = z1 :: z2 :: Z' := by
      cases Z with
      | nil => simp at e
      | cons z Z =>
        cases Z with
        | nil => simp at e
        | cons z2 Z => exact ⟨z, z2, Z, rfl⟩
    have e : f z1 :: f z2 :: Z.map f = b :: a :: l := e
    obtain ⟨e1, e2⟩ := List.cons.inj e
    obtain ⟨e2, e3⟩ := List.cons.inj e2
    exact ⟨z2 :: z1 :: Z, .swap _ _ _, by rw [List.map_cons, List.map_cons, e1, e2, e3]⟩
  | trans _ _ h1 h2 =>
    intro Z e
    obtain ⟨Z1, p1, e1⟩ := h1 e
    obtain ⟨Z2, p2, e2⟩ := h2 e1
    exact ⟨Z2, p2.trans p1, e2⟩
theorem rl.trans {a b c d : Nat} {p q r : Bar} (h : rl a b p q) (h' : rl c d q r) : rl (a + c) (b + d) p r := by
  obtain ⟨h1, h2, h3⟩ := h
  obtain ⟨g1, g2, g3⟩ := h'
  refine ⟨by omega, by omega, ?_⟩
  cases hp : p.2 with
  | none =>
    cases hq : q.2 with
    | none =>
      cases hr : r.2 with
      | none => trivial
      | some z => rw [hq, hr] at g3; exact g3.elim
    | some y => rw [hp, hq] at h3; exact h3.elim
  | some x =>
    cases hq : q.2 with
    | none => rw [hp, hq] at h3; exact h3.elim
    | some y =>
      rw [hp, hq] at h3
      cases hr : r.2 with
      | none => rw [hq, hr] at g3; exact g3.elim
      | some z =>
        rw [hq, hr] at g3
        have h3 : x ≤ y + a ∧ y ≤ x + b := h3
        have g3 : y ≤ z + c ∧ z ≤ y + d := g3
        show x ≤ z + (a + c) ∧ z ≤ x + (b + d)
        omega
theorem rl.symm {a b : Nat} {p q : Bar} (h : rl a b p q) : rl b a q p := by
  obtain ⟨h1, h2, h3⟩ := h
  refine ⟨h2, h1, ?_⟩
  cases hp : p.2 with
  | none =>
    cases hq : q.2 with
    | none => trivial
    | some y => rw [hp, hq] at h3; exact h3.elim
  | some x =>
    cases hq : q.2 with
    | none => rw [hp, hq] at h3; exact h3.elim
    | some y =>
      rw [hp, hq] at h3
      exact ⟨h3.2, h3.1⟩
theorem Cl.symm {a b : Nat} {M N : List Bar} (h : Cl a b M N) : Cl b a N M := by
  obtain ⟨Z, h1, h2, h3⟩ := h
  refine ⟨Z.map fun z => (z.2, z.1), ?_, ?_, fun z hz => ?_⟩
  · rw [List.map_map]; exact h2
  · rw [List.map_map]; exact h1
  · obtain ⟨u, hu, e⟩ := List.mem_map.mp hz
    subst e
    exact (h3 u hu).symm
theorem Cl.perm {a b : Nat} {M N M' N' : List Bar} (h : Cl a b M N) (p : M.Perm M') (q : N.Perm N') : Cl a b M' N' := by
  obtain ⟨Z, h1, h2, h3⟩ := h
  exact ⟨Z, h1.trans p, h2.trans q, h3⟩
theorem zip_maps {α β : Type} : ∀ {A : List α} {B : List β}, A.length = B.length → (A.zip B).map Prod.fst = A ∧ (A.zip B).map Prod.snd = B
  | [], [], _ => ⟨rfl, rfl⟩
  | a :: A, b :: B, h => by
    have ih := zip_maps (A := A) (B := B) (by simpa using h)
    exact ⟨by simp [ih.1], by simp [ih.2]⟩
theorem zip_eq_at {α β γ : Type} {f : α → γ} {g : β → γ} : ∀ {A : List α} {B : List β}, A.map f = B.map g → ∀ z ∈ A.zip B, f z.1 = g z.2
  | [], _, _, z, h => by simp at h
  | a :: A, [], _, z, h => by simp at h
  | a :: A, b :: B, e, z, h => by
    obtain ⟨e1, e2⟩ := List.cons.inj (show f a :: A.map f = g b :: B.map g from e)
    rcases List.mem_cons.mp (show z ∈ (a, b) :: A.zip B from h) with h | h
    · subst h; exact e1
    · exact zip_eq_at e2 z h
theorem Cl.trans {a b c d : Nat} {M N O : List Bar} (h : Cl a b M N) (h' : Cl c d N O) : Cl (a + c) (b + d) M O := by
  obtain ⟨Z, h1, h2, h3⟩ := h
  obtain ⟨Y, g1, g2, g3⟩ := h'
  obtain ⟨X, p, e⟩ := perm_lift (h2.trans g1.symm) rfl
  have hl : X.length = Y.length := by
    have := congrArg List.length e
    simpa using this
  obtain ⟨z1, z2⟩ := zip_maps hl
  refine ⟨(X.zip Y).map fun z => (z.1.1, z.2.2), ?_, ?_, fun z hz => ?_⟩
  · have : ((X.zip Y).map fun z => (z.1.1, z.2.2)).map Prod.fst = ((X.zip Y).map Prod.fst).map Prod.fst := by rw [List.map_map, List.map_map]; rfl
    rw [this, z1]
    exact (p.map _).trans h1
  · have : ((X.zip Y).map fun z => (z.1.1, z.2.2)).map Prod.snd = ((X.zip Y).map Prod.snd).map Prod.snd := by rw [List.map_map, List.map_map]; rfl
    rw [this, z2]
    exact g2
  · obtain ⟨u, hu, rfl⟩ := List.mem_map.mp hz
    have e1 := zip_eq_at e u hu
    have m1 : u.1 ∈ X := (List.of_mem_zip hu).1
    have m2 : u.2 ∈ Y := (List.of_mem_zip hu).2
    have r1 := h3 u.1 (p.mem_iff.mp m1)
    have r2 := g3 u.2 m2
    rw [e1] at r1
    exact r1.trans r2

section
variable {S : Type} [DecidableEq S] {dg : S → Nat} {bd : S → Ch S}
/-- the frame: faces, closed, and the boundary of a boundary is nothing -/
structure Cpx (F : List S) (dg : S → Nat) (bd : S → Ch S) : Prop where
  nod : F.Nodup
  sup : ∀ t ∈ F, ∀ s, bd t s = true → s ∈ F ∧ dg s + 1 = dg t
  bb : ∀ t ∈ F, exd F bd (bd t) = cz
/-- an order by times, reduced -/
structure Ord (F : List S) (dg : S → Nat) (bd : S → Ch S) (h : S → Nat) (L : List S) (R : S → Ch S) : Prop where
  perm : L.Perm F
  srt : L.Pairwise fun a b => h a ≤ h b
  red : Red L dg bd R
variable {F : List S}
theorem Cpx.ord (C : Cpx F dg bd) (h : S → Nat) : ∃ L R, L.Perm F ∧ (L.Pairwise fun a b => h a ≤ h b) ∧ Red L dg bd R := by
  have p := List.mergeSort_perm F (fun a b => decide (h a ≤ h b))
  have s := List.pairwise_mergeSort (le := fun a b => decide (h a ≤ h b)) (fun a b c => by simp; omega) (fun a b => by simp; omega) F
  obtain ⟨R, D⟩ := red_exists (L := F.mergeSort fun a b => decide (h a ≤ h b)) (p.nodup_iff.mpr C.nod) fun t ht s hs => by
    have := C.sup t (p.mem_iff.mp ht) s hs
    exact ⟨p.mem_iff.mpr this.1, this.2⟩
  exact ⟨_, R, p, s.imp (by simp), D⟩
theorem Cpx.same (C : Cpx F dg bd) {h : S → Nat} {L L' : List S} {R R' : S → Ch S} (o : Ord F dg bd h L R) (o' : Ord F dg bd h L' R') (k : Nat) : (BL L dg R h k).Perm (BL L' dg R' h k) :=
  BL_perm o.red o'.red (fun t ht => by rw [exd_perm o.perm]; exact C.bb t (o.perm.mem_iff.mp ht)) (fun t ht => by rw [exd_perm o'.perm]; exact C.bb t (o'.perm.mem_iff.mp ht)) o.srt o'.srt (o.perm.trans o'.perm.symm) k
/-- one order, two times -/
theorem BL_two {L : List S} {R : S → Ch S} {h h' : S → Nat} {lo hi : Nat} (hh : ∀ s ∈ L, h s ≤ h' s + lo ∧ h' s ≤ h s + hi) (k : Nat) : Cl lo hi (BL L dg R h k) (BL L dg R h' k) := by
  refine ⟨L.filterMap fun s => if dg s = k then (match fil L R s with | some t => some ((h s, some (h t)), (h' s, some (h' t))) | none => if (tp L.reverse (R s)).isSome then none else some ((h s, none), (h' s, none))) else none, ?_, ?_, fun z hz => ?_⟩
  · refine List.Perm.of_eq ?_
    unfold BL
    rw [List.map_filterMap]
    congr 1
    funext s
    by_cases e : dg s = k
    · cases q : fil L R s with
      | none => cases q2 : tp L.reverse (R s) <;> simp [e]
      | some t => simp [e]
    · simp [e]
  · refine List.Perm.of_eq ?_
    unfold BL
    rw [List.map_filterMap]
    congr 1
    funext s
    by_cases e : dg s = k
    · cases q : fil L R s with
      | none => cases q2 : tp L.reverse (R s) <;> simp [e]
      | some t => simp [e]
    · simp [e]
  · obtain ⟨s, hs, e⟩ := List.mem_filterMap.mp hz
    by_cases e0 : dg s = k
    · rw [if_pos e0] at e
      cases q : fil L R s with
      | none =>
        rw [q] at e
        cases q2 : tp L.reverse (R s) with
        | none =>
          simp only [q2] at e
          have e : ((h s, none), (h' s, none)) = z := by simpa using e
          subst e
          exact ⟨(hh s hs).1, (hh s hs).2, trivial⟩
        | some x => simp [q2] at e
      | some t =>
        rw [q] at e
        have e : ((h s, some (h t)), (h' s, some (h' t))) = z := by simpa using e
        subst e
        have ht := (fil_some q).1
        exact ⟨(hh s hs).1, (hh s hs).2, (hh t ht).1, (hh t ht).2⟩
    · rw [if_neg e0] at e
      cases e
theorem Cpx.step (C : Cpx F dg bd) {h h' : S → Nat} (hh : ∀ s ∈ F, h s ≤ h' s ∧ h' s ≤ h s + 1) {L L' : List S} {R R' : S → Ch S} (o : Ord F dg bd h L R) (o' : Ord F dg bd h' L' R') (k : Nat) : Cl 0 1 (BL L dg R h k) (BL L' dg R' h' k) := by
  obtain ⟨M, T, p, s, D⟩ := C.ord fun a => h a + h' a
  have o1 : Ord F dg bd h M T := ⟨p, List.Pairwise.imp_of_mem (fun {a b} ha hb q => by
    have := hh a (p.mem_iff.mp ha)
    have := hh b (p.mem_iff.mp hb)
    omega) s, D⟩
  have o2 : Ord F dg bd h' M T := ⟨p, List.Pairwise.imp_of_mem (fun {a b} ha hb q => by
    have := hh a (p.mem_iff.mp ha)
    have := hh b (p.mem_iff.mp hb)
    omega) s, D⟩
  exact (BL_two (lo := 0) (hi := 1) (fun s hs => by have := hh s (p.mem_iff.mp hs); omega) k).perm (C.same o1 o k) (C.same o2 o' k)
theorem Cpx.up (C : Cpx F dg bd) : ∀ (n : Nat) {h h' : S → Nat}, (∀ s ∈ F, h s ≤ h' s ∧ h' s ≤ h s + n) → ∀ {L L' : List S} {R R' : S → Ch S}, Ord F dg bd h L R → Ord F dg bd h' L' R' → ∀ k, Cl 0 n (BL L dg R h k) (BL L' dg R' h' k)
  | 0, h, h', hh, L, L', R, R', o, o', k => by
    have o1 : Ord F dg bd h L' R' := ⟨o'.perm, List.Pairwise.imp_of_mem (fun {a b} ha hb q => by
      have := hh a (o'.perm.mem_iff.mp ha)
      have := hh b (o'.perm.mem_iff.mp hb)
      omega) o'.srt, o'.red⟩
    exact (BL_two (lo := 0) (hi := 0) (fun s hs => by have := hh s (o'.perm.mem_iff.mp hs); omega) k).perm (C.same o1 o k) (.refl _)
  | n + 1, h, h', hh, L, L', R, R', o, o', k => by
    obtain ⟨M, T, p, s, D⟩ := C.ord fun a => min (h a + n) (h' a)
    have om : Ord F dg bd (fun a => min (h a + n) (h' a)) M T := ⟨p, s, D⟩
    have c1 := C.up n (h := h) (h' := fun a => min (h a + n) (h' a)) (fun s hs => by have := hh s hs; omega) o om k
    have c2 := C.step (h := fun a => min (h a + n) (h' a)) (h' := h') (fun s hs => by have := hh s hs; omega) om o' k
    exact c1.trans c2
/-- small changes of times, small changes of bars -/
theorem Cpx.stable (C : Cpx F dg bd) (n : Nat) {f g : S → Nat} (hh : ∀ s ∈ F, f s ≤ g s + n ∧ g s ≤ f s + n) {L L' : List S} {R R' : S → Ch S} (o : Ord F dg bd f L R) (o' : Ord F dg bd g L' R') (k : Nat) : Cl n n (BL L dg R f k) (BL L' dg R' g k) := by
  obtain ⟨M, T, p, s, D⟩ := C.ord fun a => max (f a) (g a)
  have om : Ord F dg bd (fun a => max (f a) (g a)) M T := ⟨p, s, D⟩
  have c1 := C.up n (h := f) (h' := fun a => max (f a) (g a)) (fun s hs => by have := hh s hs; omega) o om k
  have c2 := C.up n (h := g) (h' := fun a => max (f a) (g a)) (fun s hs => by have := hh s hs; omega) o' om k
  have := c1.trans c2.symm
  simpa using this
end
end G98
namespace G98
/-! finding mates, moving others -/
abbrev Mt := List (Nat × Nat)
def lk (L : Mt) (j : Nat) : Option Nat := (L.find? fun p => decide (p.1 = j)).map (·.2)
def pt (L : Mt) (j v : Nat) : Mt := if (L.any fun p => decide (p.1 = j)) = true then L.map (fun p => if p.1 = j then (p.1, v) else p) else L ++ [(j, v)]
theorem lk_nil (j : Nat) : lk [] j = none := rfl
theorem lk_cons (p : Nat × Nat) (L : Mt) (j : Nat) : lk (p :: L) j = if p.1 = j then some p.2 else lk L j := by
  by_cases e : p.1 = j <;> simp [lk, List.find?_cons, e]
theorem lk_any (j : Nat) : ∀ L : Mt, (L.any fun p => decide (p.1 = j)) = (lk L j).isSome
  | [] => rfl
  | p :: L => by
    rw [List.any_cons, lk_any j L, lk_cons]
    by_cases e : p.1 = j <;> simp [e]
theorem lk_map (j v i : Nat) : ∀ L : Mt, lk (L.map fun p => if p.1 = j then (p.1, v) else p) i = if i = j then (lk L i).map fun _ => v else lk L i
  | [] => by simp [lk_nil]
  | p :: L => by
    rw [List.map_cons, lk_cons, lk_cons, lk_map j v i L]
    by_cases e : p.1 = j
    · rw [if_pos e]
      by_cases e2 : p.1 = i
      · have : i = j := by omega
        simp [e2, this]
      · have : ¬ i = j := by omega
        simp [e2, this]
    · rw [if_neg e]
      by_cases e2 : p.1 = i
      · have : ¬ i = j := by omega
        simp [e2, this]
      · simp [e2]
theorem lk_app (L : Mt) (j v i : Nat) : lk (L ++ [(j, v)]) i = (lk L i).or (if j = i then some v else none) := by
  induction L with
  | nil => simp [lk_nil, lk_cons]
  | cons p L ih => rw [List.cons_append, lk_cons, ih, lk_cons]; split <;> simp
theorem lk_pt (L : Mt) (j v i : Nat) : lk (pt L j v) i = if i = j then some v else lk L i := by
  unfold pt
  rw [lk_any]
  split
  · rename_i h
    rw [lk_map]
    by_cases e : i = j
    · subst e
      obtain ⟨x, hx⟩ := Option.isSome_iff_exists.mp h
      simp [hx]
    · simp [e]
  · rename_i h
    rw [lk_app]
    by_cases e : i = j
    · subst e
      have : lk L i = none := by simpa using h
      simp [this]
    · have : ¬ j = i := fun z => e z.symm
      simp [e, this]
theorem keys_pt (L : Mt) (j v : Nat) : (pt L j v).map (·.1) = if j ∈ L.map (·.1) then L.map (·.1) else L.map (·.1) ++ [j] := by
  unfold pt
  have e : (L.any fun p => decide (p.1 = j)) = true ↔ j ∈ L.map (·.1) := by
    rw [List.any_eq_true, List.mem_map]
    simp
  by_cases h : j ∈ L.map (·.1)
  · rw [if_pos (e.mpr h), if_pos h, List.map_map]
    apply List.map_congr_left
    intro p _
    show (if p.1 = j then (p.1, v) else p).1 = p.1
    split <;> rfl
  · rw [if_neg (fun z => h (e.mp z)), if_neg h, List.map_append]
    rfl
/-- the keys: each once, below n -/
structure KOk (n : Nat) (L : Mt) : Prop where
  nod : (L.map (·.1)).Nodup
  lt : ∀ j ∈ L.map (·.1), j < n
theorem KOk.pt {n : Nat} {L : Mt} (h : KOk n L) {j : Nat} (hj : j < n) (v : Nat) : KOk n (pt L j v) := by
  refine ⟨?_, ?_⟩
  · rw [keys_pt]
    split
    · exact h.nod
    · rename_i q
      rw [List.nodup_append]
      exact ⟨h.nod, by simp, fun a ha b hb e => q (by simp at hb; subst hb; exact e ▸ ha)⟩
  · rw [keys_pt]
    split
    · exact h.lt
    · intro i hi
      rcases List.mem_append.mp hi with q | q
      · exact h.lt i q
      · simp at q; omega
theorem nodup_le : ∀ {l D : List Nat}, l.Nodup → (∀ x ∈ l, x ∈ D) → l.length ≤ D.length
  | [], _, _, _ => Nat.zero_le _
  | a :: l, D, hn, h => by
    obtain ⟨h1, h2⟩ := List.nodup_cons.mp hn
    have ha := h a List.mem_cons_self
    have ih := nodup_le (l := l) (D := D.erase a) h2 fun x hx => by
      have hne : x ≠ a := fun e => h1 (e ▸ hx)
      exact (List.mem_erase_of_ne hne).mpr (h x (List.mem_cons_of_mem _ hx))
    rw [List.length_erase_of_mem ha] at ih
    have : 0 < D.length := List.length_pos_of_mem ha
    simp
    omega
theorem nodup_lt {l : List Nat} {n : Nat} (hn : l.Nodup) (h : ∀ x ∈ l, x < n) : l.length ≤ n := by
  have := nodup_le (D := List.range n) hn fun x hx => List.mem_range.mpr (h x hx)
  simpa using this
theorem KOk.len {n : Nat} {L : Mt} (h : KOk n L) : L.length ≤ n := by
  have := nodup_lt h.nod h.lt
  simpa using this

abbrev Got := Bool × Mt × List Nat
def lup (near : Nat → Nat → Bool) (rec : Nat → Mt → List Nat → Got) (place : Nat) : List Nat → Mt → List Nat → Got
  | [], L, T => (false, L, T)
  | a :: as, L, T => if (T.contains a || !near place a) = true then lup near rec place as L T else
    match lk L a with
    | none => (true, pt L a place, T ++ [a])
    | some p => let r := rec p L (T ++ [a]); if r.1 = true then (true, pt r.2.1 a place, r.2.2) else lup near rec place as r.2.1 r.2.2
def imp (near : Nat → Nat → Bool) (n : Nat) : Nat → Nat → Mt → List Nat → Got
  | 0, _, L, T => (false, L, T)
  | f + 1, place, L, T => lup near (imp near n f) place (List.range n) L T

section
variable {near : Nat → Nat → Bool} {n : Nat}
/-- sizes stay -/
structure GOk (n : Nat) (T : List Nat) : Prop where
  nod : T.Nodup
  lt : ∀ j ∈ T, j < n
theorem GOk.app {T : List Nat} (h : GOk n T) {a : Nat} (ha : a < n) (hT : a ∉ T) : GOk n (T ++ [a]) := by
  refine ⟨?_, fun j hj => ?_⟩
  · rw [List.nodup_append]
    exact ⟨h.nod, by simp, fun x hx y hy e => hT (by simp at hy; subst hy; exact e ▸ hx)⟩
  · rcases List.mem_append.mp hj with q | q
    · exact h.lt j q
    · simp at q; omega
theorem lup_keys {rec : Nat → Mt → List Nat → Got} (hr : ∀ p L T, KOk n L → GOk n T → KOk n (rec p L T).2.1 ∧ GOk n (rec p L T).2.2) {place : Nat} : ∀ (as : List Nat) (L : Mt) (T : List Nat), (∀ a ∈ as, a < n) → KOk n L → GOk n T →
    KOk n (lup near rec place as L T).2.1 ∧ GOk n (lup near rec place as L T).2.2
  | [], L, T, _, h, g => ⟨h, g⟩
  | a :: as, L, T, ha, h, g => by
    have ih := fun L T => lup_keys hr (place := place) as L T fun b hb => ha b (List.mem_cons_of_mem _ hb)
    have a0 := ha a List.mem_cons_self
    unfold lup
    split
    · exact ih L T h g
    · rename_i hc
      have hT : a ∉ T := fun z => hc (by simp [z])
      cases q : lk L a with
      | none => exact ⟨h.pt a0 _, g.app a0 hT⟩
      | some p =>
        have r := hr p L (T ++ [a]) h (g.app a0 hT)
        dsimp only
        split
        · exact ⟨r.1.pt a0 _, r.2⟩
        · exact ih _ _ r.1 r.2
theorem imp_keys : ∀ (f place : Nat) (L : Mt) (T : List Nat), KOk n L → GOk n T → KOk n (imp near n f place L T).2.1 ∧ GOk n (imp near n f place L T).2.2
  | 0, _, _, _, h, g => ⟨h, g⟩
  | f + 1, place, L, T, h, g => lup_keys (fun p L T => imp_keys f p L T) (List.range n) L T (fun a ha => List.mem_range.mp ha) h g

structure Vd (near : Nat → Nat → Bool) (n : Nat) (L : Mt) : Prop where
  ok : ∀ a p, lk L a = some p → a < n ∧ near p a = true
  inj : ∀ a b p, lk L a = some p → lk L b = some p → a = b
structure Won (near : Nat → Nat → Bool) (n : Nat) (L : Mt) (T : List Nat) (place : Nat) (L' : Mt) : Prop where
  keep : ∀ a ∈ T, lk L' a = lk L a
  ok : ∀ a p, a ∉ T → lk L' a = some p → a < n ∧ near p a = true
  inj : ∀ a b p, a ∉ T → b ∉ T → lk L' a = some p → lk L' b = some p → a = b
  rng : ∀ p, (∃ a, a ∉ T ∧ lk L' a = some p) ↔ p = place ∨ ∃ a, a ∉ T ∧ lk L a = some p
structure Lost (near : Nat → Nat → Bool) (n : Nat) (L : Mt) (T : List Nat) (L' : Mt) (T' : List Nat) : Prop where
  same : L' = L
  sub : ∀ a ∈ T, a ∈ T'
  gok : GOk n T'
  clo : ∀ a ∈ T', a ∉ T → ∃ p, lk L a = some p ∧ ∀ c, c < n → near p c = true → c ∈ T'
theorem Won.widen {L L' : Mt} {T T2 : List Nat} {place : Nat} (V : Vd near n L) (w : Won near n L T2 place L') (hs : ∀ a ∈ T, a ∈ T2) (hp : ∀ a, lk L a = some place → a ∈ T) : Won near n L T place L' := by
  refine ⟨fun a ha => w.keep a (hs a ha), fun a p ha e => ?_, fun a b p ha hb ea eb => ?_, fun p => ⟨fun ⟨a, ha, e⟩ => ?_, fun h => ?_⟩⟩
  · by_cases h2 : a ∈ T2
    · rw [w.keep a h2] at e; exact V.ok a p e
    · exact w.ok a p h2 e
  · have mix : ∀ a b, a ∉ T → a ∈ T2 → b ∉ T2 → lk L' a = some p → lk L' b = some p → False := fun a b ha h2 hb ea eb => by
      rw [w.keep a h2] at ea
      rcases (w.rng p).mp ⟨b, hb, eb⟩ with e | ⟨c, hc, ec⟩
      · subst e; exact ha (hp a ea)
      · exact hc (V.inj a c p ea ec ▸ h2)
    by_cases h2 : a ∈ T2
    · by_cases h3 : b ∈ T2
      · rw [w.keep a h2] at ea
        rw [w.keep b h3] at eb
        exact V.inj a b p ea eb
      · exact (mix a b ha h2 h3 ea eb).elim
    · by_cases h3 : b ∈ T2
      · exact (mix b a hb h3 h2 eb ea).elim
      · exact w.inj a b p h2 h3 ea eb
  · by_cases h2 : a ∈ T2
    · rw [w.keep a h2] at e
      exact .inr ⟨a, ha, e⟩
    · rcases (w.rng p).mp ⟨a, h2, e⟩ with e | ⟨c, hc, ec⟩
      · exact .inl e
      · exact .inr ⟨c, fun z => hc (hs c z), ec⟩
  · rcases h with e | ⟨c, hc, ec⟩
    · obtain ⟨a, ha, ea⟩ := (w.rng p).mpr (.inl e)
      exact ⟨a, fun z => ha (hs a z), ea⟩
    · by_cases h2 : c ∈ T2
      · exact ⟨c, hc, by rw [w.keep c h2]; exact ec⟩
      · obtain ⟨a, ha, ea⟩ := (w.rng p).mpr (.inr ⟨c, h2, ec⟩)
        exact ⟨a, fun z => ha (hs a z), ea⟩
def Spec (near : Nat → Nat → Bool) (n : Nat) (as : List Nat) (place : Nat) (L : Mt) (T : List Nat) (r : Got) : Prop :=
  (r.1 = true → Won near n L T place r.2.1) ∧ (r.1 = false → Lost near n L T r.2.1 r.2.2 ∧ ∀ a ∈ as, near place a = true → a ∈ r.2.2)
theorem lup_spec {f : Nat} {rec : Nat → Mt → List Nat → Got} (hr : ∀ p L T, Vd near n L → GOk n T → n < f + T.length → (∀ a, lk L a = some p → a ∈ T) → Spec near n (List.range n) p L T (rec p L T)) {place : Nat} :
    ∀ (as : List Nat) (L : Mt) (T : List Nat), (∀ a ∈ as, a < n) → Vd near n L → GOk n T → n < f + 1 + T.length → (∀ a, lk L a = some place → a ∈ T) → Spec near n as place L T (lup near rec place as L T)
  | [], L, T, _, V, g, _, _ => ⟨fun h => (by cases h), fun _ => ⟨⟨rfl, fun _ h => h, g, fun a h h' => absurd h h'⟩, fun a ha => (by cases ha)⟩⟩
  | a :: as, L, T, has, V, g, hf, hp => by
    have ih := fun L T => lup_spec hr (place := place) as L T fun b hb => has b (List.mem_cons_of_mem _ hb)
    have a0 := has a List.mem_cons_self
    unfold lup
    split
    · rename_i hc
      obtain ⟨i1, i2⟩ := ih L T V g hf hp
      refine ⟨i1, fun h => ⟨(i2 h).1, fun b hb hn => ?_⟩⟩
      rcases List.mem_cons.mp hb with e | hb
      · subst e
        have : b ∈ T := by simpa [hn] using hc
        exact (i2 h).1.sub b this
      · exact (i2 h).2 b hb hn
    · rename_i hc
      have hT : a ∉ T := fun z => hc (by simp [z])
      have hn : near place a = true := by
        cases q : near place a with
        | true => rfl
        | false => exact absurd (by simp [q]) hc
      cases q : lk L a with
      | none =>
        refine ⟨fun _ => ?_, fun h => (by cases h)⟩
        show Won near n L T place (pt L a place)
        refine ⟨fun b hb => ?_, fun b p hb e => ?_, fun b c p hb hc' e1 e2 => ?_, fun p => ⟨fun ⟨b, hb, e⟩ => ?_, fun h => ?_⟩⟩
        · rw [lk_pt, if_neg (fun e => by subst e; exact hT hb)]
        · rw [lk_pt] at e
          split at e
          · rename_i z
            subst z
            cases e
            exact ⟨a0, hn⟩
          · exact V.ok b p e
        · rw [lk_pt] at e1 e2
          split at e1 <;> split at e2
          · rename_i z1 z2; rw [z1, z2]
          · cases e1; exact absurd (hp c e2) hc'
          · cases e2; exact absurd (hp b e1) hb
          · exact V.inj b c p e1 e2
        · rw [lk_pt] at e
          split at e
          · cases e; exact .inl rfl
          · exact .inr ⟨b, hb, e⟩
        · rcases h with e | ⟨b, hb, e⟩
          · exact ⟨a, hT, by rw [lk_pt, if_pos rfl, e]⟩
          · refine ⟨b, hb, ?_⟩
            rw [lk_pt, if_neg (fun z => ?_)]
            · exact e
            · rw [z, q] at e; cases e
      | some p0 =>
        have g1 := g.app a0 hT
        obtain ⟨r1, r2⟩ := hr p0 L (T ++ [a]) V g1 (by simp; omega) fun c hc => by
          rw [V.inj c a p0 hc q]; simp
        dsimp only
        generalize rec p0 L (T ++ [a]) = r at r1 r2
        cases hb : r.1 with
        | true =>
          have w := r1 hb
          rw [if_pos rfl]
          refine ⟨fun _ => ?_, fun h => (by cases h)⟩
          show Won near n L T place (pt r.2.1 a place)
          have out : ∀ b, b ∉ T → b ≠ a → b ∉ T ++ [a] := fun b hb hne z => by
            rcases List.mem_append.mp z with z | z
            · exact hb z
            · simp at z; exact hne z
          have back : ∀ b, b ∉ T ++ [a] → b ∉ T ∧ b ≠ a := fun b hb => ⟨fun z => hb (List.mem_append_left _ z), fun z => hb (by simp [z])⟩
          have noplace : ∀ b, b ∉ T → b ≠ a → lk r.2.1 b ≠ some place := fun b hb hne e => by
            rcases (w.rng place).mp ⟨b, out b hb hne, e⟩ with e | ⟨c, hc, e⟩
            · subst e; exact hT (hp a q)
            · exact (back c hc).1 (hp c e)
          refine ⟨fun b hb => ?_, fun b p hb e => ?_, fun b c p hb hc' e1 e2 => ?_, fun p => ⟨fun ⟨b, hb, e⟩ => ?_, fun h => ?_⟩⟩
          · rw [lk_pt, if_neg (fun e => by subst e; exact hT hb)]
            exact w.keep b (List.mem_append_left _ hb)
          · rw [lk_pt] at e
            split at e
            · rename_i z
              subst z
              cases e
              exact ⟨a0, hn⟩
            · rename_i z
              exact w.ok b p (out b hb z) e
          · rw [lk_pt] at e1 e2
            split at e1 <;> split at e2
            · rename_i z1 z2; rw [z1, z2]
            · rename_i z1 z2; cases e1; exact absurd e2 (noplace c hc' z2)
            · rename_i z1 z2; cases e2; exact absurd e1 (noplace b hb z1)
            · rename_i z1 z2; exact w.inj b c p (out b hb z1) (out c hc' z2) e1 e2
          · rw [lk_pt] at e
            split at e
            · cases e; exact .inl rfl
            · rename_i z
              rcases (w.rng p).mp ⟨b, out b hb z, e⟩ with e | ⟨c, hc, e⟩
              · exact .inr ⟨a, hT, by rw [q, e]⟩
              · exact .inr ⟨c, (back c hc).1, e⟩
          · rcases h with e | ⟨b, hb, e⟩
            · exact ⟨a, hT, by rw [lk_pt, if_pos rfl, e]⟩
            · have go : p = p0 ∨ ∃ c, c ∉ T ++ [a] ∧ lk L c = some p := by
                by_cases z : b = a
                · subst z; rw [q] at e; cases e; exact .inl rfl
                · exact .inr ⟨b, out b hb z, e⟩
              obtain ⟨c, hc, e⟩ := (w.rng p).mpr go
              obtain ⟨h1, h2⟩ := back c hc
              exact ⟨c, h1, by rw [lk_pt, if_neg h2]; exact e⟩
        | false =>
          obtain ⟨lo, near0⟩ := r2 hb
          rw [if_neg (by simp)]
          rw [lo.same]
          have hT2 : ∀ b ∈ T, b ∈ r.2.2 := fun b hb => lo.sub b (List.mem_append_left _ hb)
          have hlen : T.length ≤ r.2.2.length := nodup_le g.nod hT2
          obtain ⟨i1, i2⟩ := ih L r.2.2 V lo.gok (by omega) fun b e => hT2 b (hp b e)
          refine ⟨fun h => (i1 h).widen V hT2 hp, fun h => ?_⟩
          obtain ⟨l2, n2⟩ := i2 h
          refine ⟨⟨l2.same, fun b hb => l2.sub b (hT2 b hb), l2.gok, fun b hb hbT => ?_⟩, fun b hb hnb => ?_⟩
          · by_cases z : b ∈ r.2.2
            · by_cases z2 : b = a
              · subst z2
                exact ⟨p0, q, fun c hc hn => l2.sub c (near0 c (List.mem_range.mpr hc) hn)⟩
              · obtain ⟨p, e, cl⟩ := lo.clo b z (fun y => by
                  rcases List.mem_append.mp y with y | y
                  · exact hbT y
                  · simp at y; exact z2 y)
                exact ⟨p, e, fun c hc hn => l2.sub c (cl c hc hn)⟩
            · exact l2.clo b hb z
          · rcases List.mem_cons.mp hb with e | hb
            · subst e
              exact l2.sub b (lo.sub b (by simp))
            · exact n2 b hb hnb
theorem imp_spec : ∀ (f place : Nat) (L : Mt) (T : List Nat), Vd near n L → GOk n T → n < f + T.length → (∀ a, lk L a = some place → a ∈ T) → Spec near n (List.range n) place L T (imp near n f place L T)
  | 0, place, L, T, V, g, hf, _ => by
    have := nodup_lt g.nod g.lt
    omega
  | f + 1, place, L, T, V, g, hf, hp => lup_spec (fun p L T => imp_spec f p L T) (List.range n) L T (fun a ha => List.mem_range.mp ha) V g hf hp

theorem nodup_at {α : Type} : ∀ {l : List α} {i j : Nat} {x : α}, l.Nodup → l[i]? = some x → l[j]? = some x → i = j
  | [], _, _, _, _, h, _ => by simp at h
  | a :: l, 0, 0, _, _, _, _ => rfl
  | a :: l, 0, j + 1, x, hn, h, h' => by
    have e : a = x := by simpa using h
    subst e
    exact absurd (List.mem_of_getElem? (by simpa using h')) (List.nodup_cons.mp hn).1
  | a :: l, i + 1, 0, x, hn, h, h' => by
    have e : a = x := by simpa using h'
    subst e
    exact absurd (List.mem_of_getElem? (by simpa using h)) (List.nodup_cons.mp hn).1
  | a :: l, i + 1, j + 1, x, hn, h, h' => by
    rw [nodup_at (l := l) (i := i) (j := j) (x := x) (List.nodup_cons.mp hn).2 (by simpa using h) (by simpa using h')]
/-- all mates at once -/
structure Full (near : Nat → Nat → Bool) (n : Nat) (js : List Nat) : Prop where
  len : js.length = n
  nod : js.Nodup
  ok : ∀ i j, js[i]? = some j → j < n ∧ near i j = true
structure Run (near : Nat → Nat → Bool) (n i : Nat) (L : Mt) : Prop where
  v : Vd near n L
  k : KOk n L
  rng : ∀ p, (∃ a, lk L a = some p) ↔ p < i
theorem Run.start : Run near n 0 [] := ⟨⟨fun a p h => (by cases h), fun a b p h => (by cases h)⟩, ⟨List.nodup_nil, fun j h => (by cases h)⟩, fun p => ⟨fun ⟨a, h⟩ => (by cases h), fun h => absurd h (Nat.not_lt_zero _)⟩⟩
theorem Run.next {i : Nat} {L : Mt} (r : Run near n i L) {js : List Nat} (F : Full near n js) (hi : i < n) {f : Nat} (hf : n < f) : (imp near n f i L []).1 = true ∧ Run near n (i + 1) (imp near n f i L []).2.1 := by
  have free : ∀ a, lk L a ≠ some i := fun a e => by
    have := (r.rng i).mp ⟨a, e⟩
    omega
  have sp := imp_spec f i L [] r.v ⟨List.nodup_nil, fun j h => (by cases h)⟩ (by simpa using hf) fun a e => absurd e (free a)
  have ke := imp_keys (near := near) f i L [] r.k ⟨List.nodup_nil, fun j h => (by cases h)⟩
  generalize imp near n f i L [] = g at sp ke
  cases hb : g.1 with
  | true =>
    have w := sp.1 hb
    refine ⟨rfl, ⟨⟨fun a p e => w.ok a p (by simp) e, fun a b p e1 e2 => w.inj a b p (by simp) (by simp) e1 e2⟩, ke.1, fun p => ?_⟩⟩
    have := w.rng p
    simp only [List.not_mem_nil, not_false_eq_true, true_and] at this
    rw [this, r.rng p]
    omega
  | false =>
    exfalso
    obtain ⟨lo, n0⟩ := sp.2 hb
    -- the places on the left that lead into what was met
    have own : ∀ a ∈ g.2.2, ∃ p, lk L a = some p ∧ ∀ c, c < n → near p c = true → c ∈ g.2.2 := fun a ha => lo.clo a ha (by simp)
    have hmem : ∀ (X : List Nat), (∀ a ∈ X, a ∈ g.2.2) → X.Nodup → ∃ ps : List Nat, ps.length = X.length ∧ ps.Nodup ∧ ∀ p ∈ ps, p < n ∧ (∃ a, a ∈ X ∧ lk L a = some p) ∧ ∀ c, c < n → near p c = true → c ∈ g.2.2 := by
      intro X
      induction X with
      | nil => intro _ _; exact ⟨[], rfl, List.nodup_nil, fun p h => (by cases h)⟩
      | cons a X ih =>
        intro hX hn
        obtain ⟨h1, h2⟩ := List.nodup_cons.mp hn
        obtain ⟨ps, e1, e2, e3⟩ := ih (fun b hb => hX b (List.mem_cons_of_mem _ hb)) h2
        obtain ⟨p, ep, cl⟩ := own a (hX a List.mem_cons_self)
        refine ⟨p :: ps, by simp [e1], List.nodup_cons.mpr ⟨fun hp => ?_, e2⟩, fun q hq => ?_⟩
        · obtain ⟨_, ⟨b, hb, eb⟩, _⟩ := e3 p hp
          exact h1 (r.v.inj a b p ep eb ▸ hb)
        · rcases List.mem_cons.mp hq with e | hq
          · subst e
            refine ⟨?_, ⟨a, List.mem_cons_self, ep⟩, cl⟩
            have := (r.rng q).mp ⟨a, ep⟩
            omega
          · obtain ⟨f1, ⟨b, hb, eb⟩, f3⟩ := e3 q hq
            exact ⟨f1, ⟨b, List.mem_cons_of_mem _ hb, eb⟩, f3⟩
    obtain ⟨ps, e1, e2, e3⟩ := hmem g.2.2 (fun a h => h) lo.gok.nod
    have nod : (i :: ps).Nodup := List.nodup_cons.mpr ⟨fun h => by
      obtain ⟨_, ⟨a, _, ea⟩, _⟩ := e3 i h
      exact free a ea, e2⟩
    have into : ∀ p ∈ i :: ps, p < n ∧ ∀ c, c < n → near p c = true → c ∈ g.2.2 := fun p hp => by
      rcases List.mem_cons.mp hp with e | hp
      · subst e
        exact ⟨hi, fun c hc hn => n0 c (List.mem_range.mpr hc) hn⟩
      · exact ⟨(e3 p hp).1, (e3 p hp).2.2⟩
    have img : ((i :: ps).map fun p => js.getD p 0).Nodup := by
      refine nodup_map_on nod fun a ha b hb e => ?_
      have la := (into a ha).1
      have lb := (into b hb).1
      rw [← F.len] at la lb
      rw [List.getD_eq_getElem?_getD, List.getD_eq_getElem?_getD, List.getElem?_eq_getElem la, List.getElem?_eq_getElem lb] at e
      have e : js[a] = js[b] := e
      exact nodup_at F.nod (List.getElem?_eq_getElem la) (by rw [e]; exact List.getElem?_eq_getElem lb)
    have sub : ∀ x ∈ (i :: ps).map (fun p => js.getD p 0), x ∈ g.2.2 := fun x hx => by
      obtain ⟨p, hp, e⟩ := List.mem_map.mp hx
      have lp := (into p hp).1
      have lp' := lp
      rw [← F.len] at lp'
      have ej : js[p]? = some x := by
        rw [List.getD_eq_getElem?_getD, List.getElem?_eq_getElem lp'] at e
        rw [List.getElem?_eq_getElem lp']
        exact congrArg some e
      have := F.ok p x ej
      exact (into p hp).2 x this.1 this.2
    have := nodup_le img sub
    simp [e1] at this
    omega
end
end G98
namespace G98
/-! from close rows to a full matching, and the least number -/
def dst (a b : Nat) : Nat := (a - b) + (b - a)
def cst : Option Bar → Option Bar → Option Nat
  | none, none => none
  | some p, none => p.2.map fun y => y - p.1
  | none, some q => q.2.map fun y => y - q.1
  | some p, some q => match p.2, q.2 with
    | none, none => some (2 * max (dst p.1 q.1) 0)
    | some x, some y => some (2 * max (dst p.1 q.1) (dst x y))
    | _, _ => none
def nr (d : Nat) (p q : Option Bar) : Bool := match p, q with
  | none, none => true
  | _, _ => match cst p q with
    | some c => decide (c ≤ d)
    | none => false
def nd (p : Bar) : Bool := !decide (p.2 = some p.1)
def lft (one other : List Bar) : List (Option Bar) := one.map some ++ List.replicate other.length none
def prs (z : Bar × Bar) : List (Option Bar × Option Bar) := if nd z.1 = true then (if nd z.2 = true then [(some z.1, some z.2), (none, none)] else [(some z.1, none)]) else (if nd z.2 = true then [(none, some z.2)] else [])
theorem nr_prs {n : Nat} {z : Bar × Bar} (h : rl n n z.1 z.2) : ∀ p ∈ prs z, nr (2 * n) p.1 p.2 = true := by
  intro p hp
  obtain ⟨⟨x, o⟩, ⟨y, u⟩⟩ := z
  obtain ⟨h1, h2, h3⟩ := h
  have h1 : x ≤ y + n := h1
  have h2 : y ≤ x + n := h2
  unfold prs at hp
  by_cases d1 : nd (x, o) = true <;> by_cases d2 : nd (y, u) = true
  · rw [if_pos d1, if_pos d2] at hp
    rcases List.mem_cons.mp hp with e | hp
    · subst e
      cases o with
      | none =>
        cases u with
        | none =>
          show decide (2 * max (dst x y) 0 ≤ 2 * n) = true
          unfold dst
          simp
          omega
        | some v => exact h3.elim
      | some w =>
        cases u with
        | none => exact h3.elim
        | some v =>
          have h3 : w ≤ v + n ∧ v ≤ w + n := h3
          show decide (2 * max (dst x y) (dst w v) ≤ 2 * n) = true
          unfold dst
          simp
          omega
    · have e : p = (none, none) := by simpa using hp
      subst e
      rfl
  · rw [if_pos d1, if_neg d2] at hp
    have e : p = (some (x, o), none) := by simpa using hp
    subst e
    have eu : u = some y := by simpa [nd] using d2
    subst eu
    cases o with
    | none => exact h3.elim
    | some w =>
      have h3 : w ≤ y + n ∧ y ≤ w + n := h3
      show decide (w - x ≤ 2 * n) = true
      simp
      omega
  · rw [if_neg d1, if_pos d2] at hp
    have e : p = (none, some (y, u)) := by simpa using hp
    subst e
    have eo : o = some x := by simpa [nd] using d1
    subst eo
    cases u with
    | none => exact h3.elim
    | some v =>
      have h3 : x ≤ v + n ∧ v ≤ x + n := h3
      show decide (v - y ≤ 2 * n) = true
      simp
      omega
  · rw [if_neg d1, if_neg d2] at hp
    cases hp
theorem rep_perm {α : Type} (a : α) (k : Nat) (l : List α) : (List.replicate (k + 1) a ++ l).Perm (List.replicate k a ++ a :: l) := by
  rw [List.replicate_succ']
  rw [List.append_assoc]
  rfl
theorem prs_left : ∀ Z : List (Bar × Bar), ((Z.flatMap prs).map Prod.fst).Perm (lft ((Z.map Prod.fst).filter nd) ((Z.map Prod.snd).filter nd))
  | [] => .nil
  | z :: Z => by
    have ih := prs_left Z
    unfold lft at ih ⊢
    rw [List.flatMap_cons, List.map_append, List.map_cons, List.map_cons]
    unfold prs
    by_cases d1 : nd z.1 = true <;> by_cases d2 : nd z.2 = true
    · rw [if_pos d1, if_pos d2, List.filter_cons_of_pos d1, List.filter_cons_of_pos d2, List.map_cons, List.length_cons, List.replicate_succ]
      refine (List.Perm.cons _ ?_)
      exact (ih.cons none).trans List.perm_middle.symm
    · rw [if_pos d1, if_neg d2, List.filter_cons_of_pos d1, List.filter_cons_of_neg d2, List.map_cons]
      exact ih.cons _
    · rw [if_neg d1, if_pos d2, List.filter_cons_of_neg d1, List.filter_cons_of_pos d2, List.length_cons, List.replicate_succ]
      exact (ih.cons none).trans List.perm_middle.symm
    · rw [if_neg d1, if_neg d2, List.filter_cons_of_neg d1, List.filter_cons_of_neg d2]
      exact ih
theorem prs_right : ∀ Z : List (Bar × Bar), ((Z.flatMap prs).map Prod.snd).Perm (lft ((Z.map Prod.snd).filter nd) ((Z.map Prod.fst).filter nd))
  | [] => .nil
  | z :: Z => by
    have ih := prs_right Z
    unfold lft at ih ⊢
    rw [List.flatMap_cons, List.map_append, List.map_cons, List.map_cons]
    unfold prs
    by_cases d1 : nd z.1 = true <;> by_cases d2 : nd z.2 = true
    · rw [if_pos d1, if_pos d2, List.filter_cons_of_pos d1, List.filter_cons_of_pos d2, List.map_cons, List.length_cons, List.replicate_succ]
      refine (List.Perm.cons _ ?_)
      exact (ih.cons none).trans List.perm_middle.symm
    · rw [if_pos d1, if_neg d2, List.filter_cons_of_pos d1, List.filter_cons_of_neg d2, List.length_cons, List.replicate_succ]
      exact (ih.cons none).trans List.perm_middle.symm
    · rw [if_neg d1, if_pos d2, List.filter_cons_of_neg d1, List.filter_cons_of_pos d2, List.map_cons]
      exact ih.cons _
    · rw [if_neg d1, if_neg d2, List.filter_cons_of_neg d1, List.filter_cons_of_neg d2]
      exact ih
theorem lft_perm {a b c d : List Bar} (p : a.Perm b) (q : c.length = d.length) : (lft a c).Perm (lft b d) := by
  unfold lft
  rw [q]
  exact (p.map _).append (.refl _)
theorem lft_len (a b : List Bar) : (lft a b).length = a.length + b.length := by simp [lft]
/-- places in a row for its arrangement -/
theorem places {α : Type} {A B : List α} (p : A.Perm B) : ∃ js : List Nat, js.length = A.length ∧ js.Nodup ∧ ∀ (i j : Nat), js[i]? = some j → ∃ x : α, A[i]? = some x ∧ B[j]? = some x := by
  have e : ((B.zip (List.range B.length)).map Prod.fst) = B := (zip_maps (by simp)).1
  obtain ⟨Z, q, ez⟩ := perm_lift (p.symm) (f := Prod.fst) e
  refine ⟨Z.map Prod.snd, ?_, ?_, fun i j h => ?_⟩
  · rw [List.length_map, ← ez, List.length_map]
  · rw [(q.map Prod.snd).nodup_iff, (zip_maps (by simp)).2]
    exact List.nodup_range
  · rw [List.getElem?_map] at h
    obtain ⟨z, hz, hj⟩ := Option.map_eq_some_iff.mp h
    refine ⟨z.1, ?_, ?_⟩
    · rw [← ez, List.getElem?_map, hz]; rfl
    · have hm := q.mem_iff.mp (List.mem_of_getElem? hz)
      obtain ⟨k, hk⟩ := List.getElem?_of_mem hm
      rw [List.getElem?_zip_eq_some] at hk
      obtain ⟨h1, h2⟩ := hk
      have : k = z.2 := by
        have := (List.getElem?_eq_some_iff.mp h2)
        obtain ⟨lt, e⟩ := this
        simpa using e
      rw [← hj, ← this]
      exact h1
def nrAt (one other : List Bar) (d i j : Nat) : Bool := match (lft one other)[i]?, (lft other one)[j]? with
  | some p, some q => nr d p q
  | _, _ => false
theorem Cl.full {n : Nat} {M N one other : List Bar} (h : Cl n n M N) (p : one.Perm (M.filter nd)) (q : other.Perm (N.filter nd)) : ∃ js, Full (nrAt one other (2 * n)) (one.length + other.length) js := by
  obtain ⟨Z, h1, h2, h3⟩ := h
  have q1 : ((Z.map Prod.fst).filter nd).Perm one := (h1.filter nd).trans p.symm
  have q2 : ((Z.map Prod.snd).filter nd).Perm other := (h2.filter nd).trans q.symm
  have pl := (prs_left Z).trans (lft_perm q1 q2.length_eq)
  have pr := (prs_right Z).trans (lft_perm q2 q1.length_eq)
  obtain ⟨W, pW, eW⟩ := perm_lift pl (f := Prod.fst) rfl
  have pr2 : (W.map Prod.snd).Perm (lft other one) := (pW.map Prod.snd).trans pr
  obtain ⟨js, j1, j2, j3⟩ := places pr2
  have lW : W.length = one.length + other.length := by
    have := congrArg List.length eW
    rw [List.length_map, lft_len] at this
    exact this
  refine ⟨js, by rw [j1, List.length_map, lW], j2, fun i j hj => ?_⟩
  obtain ⟨x, hx, hy⟩ := j3 i j hj
  rw [List.getElem?_map] at hx
  obtain ⟨w, hw, e⟩ := Option.map_eq_some_iff.mp hx
  have hl : (lft one other)[i]? = some w.1 := by rw [← eW, List.getElem?_map, hw]; rfl
  have lj : j < (lft other one).length := (List.getElem?_eq_some_iff.mp hy).1
  rw [lft_len] at lj
  refine ⟨by omega, ?_⟩
  unfold nrAt
  rw [hl, hy, ← e]
  show nr (2 * n) w.1 w.2 = true
  have hm := pW.mem_iff.mp (List.mem_of_getElem? hw)
  obtain ⟨z, hz, hp⟩ := List.mem_flatMap.mp hm
  exact nr_prs (h3 z hz) w hp
/-- a greatest number of a row -/
def mx (l : List Nat) : Nat := l.foldr max 0
theorem mx_le {l : List Nat} {x : Nat} (h : x ∈ l) : x ≤ mx l := by
  induction l with
  | nil => cases h
  | cons a l ih =>
    show x ≤ max a (mx l)
    rcases List.mem_cons.mp h with e | h
    · subst e; exact Nat.le_max_left _ _
    · exact Nat.le_trans (ih h) (Nat.le_max_right _ _)
theorem mx_mem (l : List Nat) : mx l = 0 ∨ mx l ∈ l := by
  induction l with
  | nil => exact .inl rfl
  | cons a l ih =>
    show max a (mx l) = 0 ∨ max a (mx l) ∈ a :: l
    by_cases h : mx l ≤ a
    · rw [Nat.max_eq_left h]; exact .inr List.mem_cons_self
    · rw [Nat.max_eq_right (by omega)]
      rcases ih with e | e
      · exact .inl e
      · exact .inr (List.mem_cons_of_mem _ e)
/-- the numbers that are tried -/
def IsCand (one other : List Bar) (c : Nat) : Prop := c = 0 ∨ ∃ p q, (p = none ∨ ∃ x, p = some x ∧ x ∈ one) ∧ (q = none ∨ ∃ y, q = some y ∧ y ∈ other) ∧ ¬ (p = none ∧ q = none) ∧ cst p q = some c
theorem mem_lft {a b : List Bar} {i : Nat} {p : Option Bar} (h : (lft a b)[i]? = some p) : p = none ∨ ∃ x, p = some x ∧ x ∈ a := by
  have := List.mem_of_getElem? h
  rcases List.mem_append.mp this with h | h
  · obtain ⟨x, hx, e⟩ := List.mem_map.mp h
    exact .inr ⟨x, e.symm, hx⟩
  · exact .inl (List.eq_of_mem_replicate h)
theorem nr_cost {d : Nat} {p q : Option Bar} (h : nr d p q = true) : (p = none ∧ q = none) ∨ (¬ (p = none ∧ q = none) ∧ ∃ c, cst p q = some c ∧ c ≤ d) := by
  cases p with
  | none =>
    cases q with
    | none => exact .inl ⟨rfl, rfl⟩
    | some y =>
      refine .inr ⟨fun z => (by cases z.2), ?_⟩
      unfold nr at h
      cases e : cst none (some y) with
      | none => simp only [e] at h; cases h
      | some c => simp only [e] at h; exact ⟨c, rfl, by simpa using h⟩
  | some x =>
    refine .inr ⟨fun z => (by cases z.1), ?_⟩
    unfold nr at h
    cases q with
    | none =>
      cases e : cst (some x) none with
      | none => simp only [e] at h; cases h
      | some c => simp only [e] at h; exact ⟨c, rfl, by simpa using h⟩
    | some y =>
      cases e : cst (some x) (some y) with
      | none => simp only [e] at h; cases h
      | some c => simp only [e] at h; exact ⟨c, rfl, by simpa using h⟩
theorem nr_of {d c : Nat} {p q : Option Bar} (e : cst p q = some c) (h : c ≤ d) : nr d p q = true := by
  cases p with
  | none =>
    cases q with
    | none => rfl
    | some y => unfold nr; simp only [e]; simpa using h
  | some x => cases q <;> (unfold nr; simp only [e]; simpa using h)
theorem Full.least {one other : List Bar} {d n : Nat} {js : List Nat} (F : Full (nrAt one other d) n js) : ∃ c, IsCand one other c ∧ c ≤ d ∧ Full (nrAt one other c) n js := by
  let cs : List Nat := (List.range n).filterMap fun i => (js[i]?).bind fun j => ((lft one other)[i]?).bind fun p => ((lft other one)[j]?).bind fun q => cst p q
  have inC : ∀ {x}, x ∈ cs → ∃ i j p q, js[i]? = some j ∧ (lft one other)[i]? = some p ∧ (lft other one)[j]? = some q ∧ cst p q = some x := fun {x} hx => by
    obtain ⟨i, hi, e⟩ := List.mem_filterMap.mp hx
    obtain ⟨j, hj, e⟩ := Option.bind_eq_some_iff.mp e
    obtain ⟨p, hp, e⟩ := Option.bind_eq_some_iff.mp e
    obtain ⟨q, hq, e⟩ := Option.bind_eq_some_iff.mp e
    exact ⟨i, j, p, q, hj, hp, hq, e⟩
  have at' : ∀ i j, js[i]? = some j → ∃ p q, (lft one other)[i]? = some p ∧ (lft other one)[j]? = some q ∧ nr d p q = true := fun i j hj => by
    have := (F.ok i j hj).2
    unfold nrAt at this
    cases hp : (lft one other)[i]? with
    | none => simp [hp] at this
    | some p =>
      cases hq : (lft other one)[j]? with
      | none => simp [hp, hq] at this
      | some q =>
        rw [hp, hq] at this
        exact ⟨p, q, hp, hq, this⟩
  refine ⟨mx cs, ?_, ?_, F.len, F.nod, fun i j hj => ⟨(F.ok i j hj).1, ?_⟩⟩
  · rcases mx_mem cs with e | e
    · exact .inl e
    · obtain ⟨i, j, p, q, hj, hp, hq, ec⟩ := inC e
      refine .inr ⟨p, q, mem_lft hp, mem_lft hq, fun z => ?_, ec⟩
      rw [z.1, z.2] at ec
      cases ec
  · rcases mx_mem cs with e | e
    · omega
    · obtain ⟨i, j, p, q, hj, hp, hq, ec⟩ := inC e
      obtain ⟨p', q', hp', hq', h⟩ := at' i j hj
      rw [hp] at hp'; cases hp'
      rw [hq] at hq'; cases hq'
      rcases nr_cost h with ⟨h1, h2⟩ | ⟨_, c, e1, e2⟩
      · rw [h1, h2] at ec; cases ec
      · rw [ec] at e1; cases e1; exact e2
  · obtain ⟨p, q, hp, hq, h⟩ := at' i j hj
    unfold nrAt
    rw [hp, hq]
    show nr (mx cs) p q = true
    rcases nr_cost h with ⟨h1, h2⟩ | ⟨_, c, e1, e2⟩
    · rw [h1, h2]; rfl
    · refine nr_of e1 (mx_le ?_)
      have hi : i < n := by
        have := (List.getElem?_eq_some_iff.mp hj).1
        rw [F.len] at this
        exact this
      exact List.mem_filterMap.mpr ⟨i, List.mem_range.mpr hi, by rw [hj, Option.bind_some, hp, Option.bind_some, hq, Option.bind_some]; exact e1⟩
end G98
namespace G98
open PySem PySem.Spec PyProof.Rows L2
/-! sorted of data: the items with what they read as -/
abbrev It2 := V × PyData
def rSrt (K : PySem.W.Frag) : List V → Hp → VK → Prop := fun vs H Q => ∃ (a : Addr) (bs : List It2), vs = [.ref a] ∧ SqL K H a (bs.map Prod.fst) ∧ (∀ b ∈ bs, Dp K H b.1 b.2) ∧
  PySem.W.AllAlike (bs.map Prod.snd) ∧ PySem.W.Sortable (bs.map Prod.snd) ∧ (∀ b ∈ bs, b.2.depth ≤ 50) ∧ bs.length ≤ sizeLine ∧
  ∀ p, H p = none → Q (.ref p) (upd H p (.lst ((bs.mergeSort (PySem.W.dataLe false Prod.snd)).map Prod.fst)))
theorem each_of_vals {R : Value → It2 → Prop} : ∀ {bs : List It2} {us : List Value}, Vals (bs.map Prod.fst) us → (∀ b ∈ bs, ∀ u, RelV b.1 u → R u b) → PySem.W.EachIs R us bs
  | [], us, r, _ => by
    have r : Vals [] us := r
    cases r
    exact .nil
  | b :: bs, us, r, h => by
    have r : Vals (b.1 :: bs.map Prod.fst) us := r
    cases r with
    | cons r1 r2 => exact .cons (h b List.mem_cons_self _ r1) (each_of_vals r2 fun c hc => h c (List.mem_cons_of_mem _ hc))
theorem vals_of_each : ∀ {bs : List It2} {us : List Value}, PySem.W.EachIs (fun u b => RelV b.1 u) us bs → Vals (bs.map Prod.fst) us
  | _, _, .nil => .nil
  | _, _, .cons h t => .cons h (vals_of_each t)
theorem cr_srt {X : Cx} (hu : X.A.units + 64 < cLine) : CallR X (.builtin "sorted") (rSrt X.K) := by
  intro pins s σ H vs us Q I r h
  obtain ⟨a, bs, ea, hs, hd, h1, h2, h3, h4, q⟩ := h
  subst ea
  obtain ⟨its, rv, hl, hz⟩ := I.list hs
  obtain ⟨u, eu, ru⟩ := vals1 r
  subst eu
  obtain rfl : u = Value.ref a := ru
  have e1 : PySem.W.EachIs (fun u b => RelV b.1 u) its bs := each_of_vals rv fun b _ u h => h
  have e2 : PySem.W.EachIs (fun v (b : It2) => ∃ as, Reads s.heap v b.2 as) its bs := each_of_vals rv fun b hb u hr => Dp.reads I b.2 b.1 u (hd b hb) hr
  refine PySem.W.sorted_data (enc := Prod.snd) hl.isList e1 e2 h1 h2 h4 (fun b hb => by have := h3 b hb; omega) fun out ho eo => ?_
  have hp : H (s.heap.objs.size + 1) = none := I.hok.fresh (Nat.le_succ _)
  obtain ⟨n, hn⟩ := sortedAll_at s.heap its out.toArray
  refine ⟨.ref (s.heap.objs.size + 1), upd H (s.heap.objs.size + 1) (.lst ((bs.mergeSort (PySem.W.dataLe false Prod.snd)).map Prod.fst)), I.laid (t' := s.toks) (fun b o e => sortedAll_old e) (Nat.le_succ _) ⟨?_, out, n, vals_of_each eo, hn⟩, rfl, q _ hp⟩
  rw [List.length_map, List.length_mergeSort]
  exact h4
end G98
namespace G98
open PySem PySem.Spec PyProof.Rows L2
abbrev Sl := L2.St
/-! dict comprehensions whose keys may be tuples: what is put is said by DPut -/
theorem set_put {X : Cx} {pins : List (Addr × Obj)} {σ : Sl} {H H' : Hp} {s : Shared} {E : Value → Shared → Prop} {D : Addr} {y z : V} {u r : Value} {Q : Unit → Shared → Prop}
    (hu : X.A.units + 1 < cLine) (I : Inv X pins σ H s) (g : DPut H D y z H') (ry : RelV y u) (rz : RelV z r) (h : ∀ s', Inv X pins σ H' s' → Q () s') : wpAny (model X.prog X.w) X.A (dictSet D u r) Q E s := by
  rcases g with ⟨kvs, k, e, ey, l, eH⟩ | ⟨kvs, k, b, e, ey, eb, l, eH⟩
  · subst ey
    subst eH
    exact d_dictSet I e l ry rz h
  · subst ey
    subst eH
    obtain rfl : u = Value.ref b := ry
    obtain ⟨hz, hd, xs, rel, dd⟩ := dt_of I.hok e
    have hl := Paired.length rel
    have hl2 := length_putK kvs k z
    refine wpAny_dictSet_heap (hsz := by omega) (show X.A.units < cLine by omega) (key_of I.hok eb) dd fun h' dd' hs => h _ ?_
    obtain ⟨q, es, ep, hq, h2, h3, h4, _, h5⟩ := dd'
    refine d_write I (by rw [e]; exact True.intro) hs ⟨q, hq⟩ ⟨by omega, hd, _, (rel.put k eb rz).keeps fun c ys ec => ?_, q, es, ep, hq, h2, h3, h4, h5⟩
    have hne : c ≠ D := ne_of ec e (fun z => by cases z)
    rw [upd_ne hne]
    exact ec
/-- how a turn of the comprehension ends -/
def dcTurn (D : Addr) (tk tv : TE) (Nx : Hp → Prop) (σ2 : Sl) (b : Bool) (H3 : Hp) : Prop :=
  if b = true then tk σ2 H3 fun y H4 => tv σ2 H4 fun z H5 => ∃ H6, DPut H5 D y z H6 ∧ Nx H6 else Nx H3
/-- o0: the empty dict as it is to be seen, .dK [] or .dT [] -/
def tDcP (o0 : HO) (wi : TI) (g : TG) (tt : TT) (tk tv : TE) (vs : List Nat) : TE := fun σ H Q => wi σ H fun J H1 => ∀ D, H1 D = none →
  ∃ W : Nat → Nat → Hp → Prop, (∃ m, W 0 m (upd H1 D o0)) ∧ ∀ i m H, W i m H → (J.stop i H ∧ Q (.ref D) H) ∨
    (J.go i H ∧ ∃ Nx : Hp → Prop, (∀ H', Nx H' → ∃ m', m' < m ∧ W (i + 1) m' H') ∧ ∀ x H', J.yld i H x H' → g x (wipe σ vs) H' fun σ2 H2 => wipe σ2 vs = wipe σ vs ∧ tt σ2 H2 (dcTurn D tk tv Nx σ2))
section
variable {X : Cx} {kx vx tg iter : Expr} {ifs : List Expr} {scope : Scope} {own : List (Str × Nat)} {pos : Pos} {wi : TI} {g : TG} {tt : TT} {tk tv : TE} {o0 : HO}
/-- in every block of the comprehension -/
abbrev InBlk (X : Cx) (scope : Scope) (F : Cx → Prop) : Prop := ∀ (s : Shared) (H : Hp) (C : Addr) (cl : List (Str × Addr)) (fp : List Addr), F (X.blk s H scope (compEnvC scope cl C X.env) fp)
theorem dcP_core {pins : List (Addr × Obj)} {s : Shared} {σ : Sl} {H : Hp} {Q : VK} {pos' : Pos} {use : Option (Value → Sem Unit)} {Qf : Value → Shared → Prop} (hu : X.A.units + 1 < cLine) (ho : o0 = .dK [] ∨ o0 = .dT []) (hc : X.calm = true) (hN : X.N.Nodup) (I : Inv X pins σ H s) (hi : PI X tg iter wi) (ok : BlkOk X.N X.env.scope scope own)
    (hg : InBlk X scope fun Y => PG Y tg g) (ht : InBlk X scope fun Y => PTs Y ifs tt) (hk : InBlk X scope fun Y => PE Y kx tk) (hv : InBlk X scope fun Y => PE Y vx tv)
    (hs : ∀ x, foldedSetIterable iter X.env x = pure x) (h : tDcP o0 wi g tt tk tv (own.map (·.2)) σ H Q)
    (hRR : ∀ D C s' m H', Inv X pins σ H' s' → Q (.ref D) H' → s'.heap.Ns C m → FpOk X pins H' C → compPost (model X.prog X.w) X.A X.xe use Qf (.ref D) C (.ok .next) s') :
    wpAny (model X.prog X.w) X.A (comprehension (.DictComp kx vx [⟨tg, iter, ifs, 0⟩] scope pos) scope X.env pos' newDict false (eval iter X.env) use) Qf X.xe s := by
  have hfree : ∀ y ∈ scope.names, y.2 = .free → ∃ c, X.env.cells.lookup y.1 = some c := fun y hy e => (ok.free y hy e).elim (fun k => I.ok.has _ (.inl k)) fun k => I.ok.has _ (.inr k)
  refine wpAny_comprehension_free (use := use) rfl hs (closure_ok hfree) ok.kind (fun y hy e => by rw [ok.uniq y hy, e]) (thn (hi.run pins s σ H _ I h) fun xv s1 hx => thn hx fun itv s2 h2 => ?_)
  obtain ⟨it, fp, tn, J, H2, ei, I2, T, st2, f2, q⟩ := h2
  subst ei
  refine wpAny_newObj_type (newEnv_comp ?_)
  -- the new dict stands at D
  generalize hD : s2.heap.objs.size = D
  have hDn : H2 D = none := I2.hok.fresh (Nat.le_of_eq hD)
  obtain ⟨W, ⟨m0, w0⟩, turn⟩ := q D hDn
  generalize hs3 : ({ s2 with heap := s2.heap.push { cls := .type "dict", data := .dict #[] } } : Shared) = s3
  have h3 : s3.heap = s2.heap.push { cls := .type "dict", data := .dict #[] } := by rw [← hs3]
  have I3 : Inv X pins σ (upd H2 D o0) s3 := by
    rw [← hs3]
    refine I2.laid (t' := s2.toks) (fun b o e => Heap.get?_push_of_some _ e) (Nat.le_of_eq hD) ?_
    rw [← hD]
    rcases ho with e | e <;> rw [e]
    · exact dk_empty s2.heap I2.big
    · exact dt_empty s2.heap I2.big
  have low : ∀ b ∈ fp, b < s2.heap.objs.size := fun b hb => let ⟨o, e, _⟩ := T.obj _ _ st2 b hb; Heap.lt_size e
  have f3 : ∀ b ∈ fp, FpOk X pins (upd H2 D o0) b ∧ b < s3.heap.objs.size := fun b hb => by
    have hlt := low b hb
    have hb2 : (upd H2 D o0) b = none := by
      rw [upd_ne (by rw [← hD]; exact Nat.ne_of_lt hlt)]
      exact (f2 b hb).1
    exact ⟨⟨hb2, (f2 b hb).2⟩, by rw [h3, Heap.size_push]; exact Nat.lt_succ_of_lt hlt⟩
  have st3 : tn 0 s3.heap := T.keep _ _ _ st2 fun b _ o e => by rw [h3]; exact Heap.get?_push_of_some _ e
  generalize hH3 : upd H2 D o0 = H3 at I3 w0 f3
  have I4 := block_start I3 ok hN f3
  generalize hcl : cellsFrom (s3.heap.objs.size + 1) scope.names (cloFrom X.env.cells scope.names []) = cl at I4
  have pg := hg s3 H3 s3.heap.objs.size cl fp
  have pt := ht s3 H3 s3.heap.objs.size cl fp
  have pk := hk s3 H3 s3.heap.objs.size cl fp
  have pv' := hv s3 H3 s3.heap.objs.size cl fp
  have cL : (compEnvC scope cl s3.heap.objs.size X.env).locals = s3.heap.objs.size := rfl
  show codeAny _ _ (.compStart (.DictComp kx vx [⟨tg, iter, ifs, 0⟩] scope pos) 0 (.ref it) (.ref D) (compEnvC scope cl s3.heap.objs.size X.env)) (compPost (model X.prog X.w) X.A X.xe use Qf (.ref D) s3.heap.objs.size)
    { s3 with heap := pushCells (s3.heap.push { cls := .type "dict", data := .dict #[] }) scope.names }
  generalize compEnvC scope cl s3.heap.objs.size X.env = ce at I4 pg pt pk pv' cL ⊢
  generalize hs4 : ({ s3 with heap := pushCells (s3.heap.push { cls := .type "dict", data := .dict #[] }) scope.names } : Shared) = s4 at I4 ⊢
  have st4 : tn 0 s4.heap := T.keep _ _ _ st3 fun b _ o e => by rw [← hs4]; exact pushCells_keeps _ _ _ _ (Heap.get?_push_of_some _ e)
  have none0 : ∀ p, p ∈ (X.blk s3 H3 scope ce fp).pn ++ ([] : List (Addr × Obj)) → False := fun p hp => by cases hp
  have mine : ∀ {σ' : Sl} {H' : Hp} {s' : Shared}, Inv (X.blk s3 H3 scope ce fp) [] σ' H' s' → (∀ b ∈ fp, H' b = none) → ∀ b ∈ fp, FpOk (X.blk s3 H3 scope ce fp) [] H' b := fun I' hn b hb =>
    let z := I'.ok.exf b hb
    ⟨hn b hb, z.1, I'.ok.exfs b hb, .inl hb, fun x c e => z.2 x c e, fun p hp => (none0 p hp).elim⟩
  have loop : codeAny (model X.prog X.w) X.A (.compLoop (.DictComp kx vx [⟨tg, iter, ifs, 0⟩] scope pos) 0 (.ref it) (.ref D) ce) (compPost (model X.prog X.w) X.A X.xe use Qf (.ref D) s3.heap.objs.size) s4 := by
    refine compLoop_anyD (fun n s' => ∃ i H', Inv (X.blk s3 H3 scope ce fp) [] (wipe σ (own.map (·.2))) H' s' ∧ tn i s'.heap ∧ (∀ b ∈ fp, H' b = none) ∧ W i n H') ?_ m0 ⟨0, H3, I4, st4, fun b hb => (f3 b hb).1.1, w0⟩
    intro n s5 h5
    obtain ⟨i, H5, I5, st5, n5, w5⟩ := h5
    rcases turn i n H5 w5 with ⟨stop, done⟩ | ⟨go, Nx, hNx, step⟩
    · -- the end: back to where the comprehension stands
      refine thnF (T.done (X.blk s3 H3 scope ce fp) rfl rfl rfl hc i [] s5 _ H5 (fun _ _ => False) I5 (mine I5 n5) st5 stop) fun r s6 h6 => ?_
      obtain ⟨er, I6⟩ := h6
      subst er
      have I7 : Inv X pins σ H5 s6 := I3.call' (ch := fp) I6.os I6.base I6.hok I6.bare fun b hb => let z := (f3 b hb).1.2; ⟨z.2.2.1, z.1, z.2.2.2.1, z.2.2.2.2⟩
      have free : H5 ce.locals = none := I6.free
      obtain ⟨m, hn, _⟩ := I6.loc
      have hn : s6.heap.Ns ce.locals m := hn
      rw [cL] at hn free
      exact hRR D s3.heap.objs.size s6 m H5 I7 done hn (I3.fpOk (Nat.le_refl _) free)
    · refine thnF (T.item (X.blk s3 H3 scope ce fp) rfl rfl rfl hc i [] s5 _ H5 (fun _ _ => False) I5 (mine I5 n5) st5 go) fun r s6 h6 => ?_
      obtain ⟨u, er, h6⟩ := h6
      subst er
      refine thnF h6 fun _ s7 h7 => ?_
      obtain ⟨x, H7, I7, r7, y7, st7, n7⟩ := h7
      refine thnF (pg.run _ s7 _ H7 x u _ (I7.pinned (mine I7 n7) (T.obj _ _ st7)) r7 (step x H7 y7)) fun _ s8 h8 => ?_
      obtain ⟨σ8, H8, I8, hw8, q8⟩ := h8
      refine thnF (pt.run _ s8 σ8 H8 _ I8 q8) fun b s9 h9 => ?_
      obtain ⟨H9, I9, q9⟩ := h9
      -- behind the turn the iterator's records stand as it left them
      have again : ∀ {s' : Shared} {H' : Hp}, Inv (X.blk s3 H3 scope ce fp) ([] ++ pinsAt fp s7.heap) σ8 H' s' → Nx H' → ∃ m, m < n ∧ ∃ i H', Inv (X.blk s3 H3 scope ce fp) [] (wipe σ (own.map (·.2))) H' s' ∧ tn i s'.heap ∧ (∀ b ∈ fp, H' b = none) ∧ W i m H' := fun {s' H'} I' nx => by
        obtain ⟨m', hm, w'⟩ := hNx H' nx
        have kept : ∀ b ∈ fp, ∀ o, s7.heap.get? b = some o → s'.heap.get? b = some o ∧ H' b = none := fun b hb o e => by
          have z := I'.pin (b, o) (List.mem_append_right _ (List.mem_append_right _ (mem_pinsAt hb e)))
          exact ⟨z.1, z.2.1⟩
        have J : Inv (X.blk s3 H3 scope ce fp) [] (wipe σ (own.map (·.2))) H' s' := Inv.weak (Inv.unpinned (pins := []) I') (by rw [← hw8, wipe_length]) fun j v e => by
          rw [← hw8] at e
          exact (wipe_some e).1
        refine ⟨m', hm, i + 1, H', J, T.keep _ _ _ st7 fun b hb o e => (kept b hb o e).1, fun b hb => ?_, w'⟩
        obtain ⟨o, e, _⟩ := T.obj _ _ st7 b hb
        exact (kept b hb o e).2
      unfold dcTurn at q9
      cases b with
      | false =>
        rw [if_neg Bool.false_ne_true] at q9
        rw [if_neg Bool.false_ne_true]
        exact again I9 q9
      | true =>
        rw [if_pos rfl] at q9
        rw [if_pos rfl]
        refine thnF (pk.run _ s9 σ8 H9 _ I9 q9) fun z1 s10 h10 => ?_
        obtain ⟨yk, H10, I10, r10, q10⟩ := h10
        refine thnF (pv'.run _ s10 σ8 H10 _ I10 q10) fun z2 s11 h11 => ?_
        obtain ⟨yv, H11, I11, r11, H12, put, nx⟩ := h11
        exact set_put (X := X.blk s3 H3 scope ce fp) hu I11 put r10 r11 fun s12 I12 => again I12 nx
  exact codeAny_compStart_dict loop (T.self X.A 0 _ _ _ st4 loop)
theorem pe_dcP (hu : X.A.units + 1 < cLine) (ho : o0 = .dK [] ∨ o0 = .dT []) (hc : X.calm = true) (hN : X.N.Nodup) (hi : PI X tg iter wi) (ok : BlkOk X.N X.env.scope scope own)
    (hg : InBlk X scope fun Y => PG Y tg g) (ht : InBlk X scope fun Y => PTs Y ifs tt) (hk : InBlk X scope fun Y => PE Y kx tk) (hv : InBlk X scope fun Y => PE Y vx tv)
    (hs : ∀ x, foldedSetIterable iter X.env x = pure x := by intro _; rfl) : PE X (.DictComp kx vx [⟨tg, iter, ifs, 0⟩] scope pos) (tDcP o0 wi g tt tk tv (own.map (·.2))) := by
  refine ⟨fun pins s σ H Q I h => ?_⟩
  rw [arm_eval_DictComp]
  refine dcP_core hu ho hc hN I hi ok hg ht hk hv hs h fun D C s' m H' I' q hn f => ⟨m, hn, fun h'' sb => ?_⟩
  obtain ⟨f0, f1, f2, f3, f4, f5⟩ := f
  exact ⟨.ref D, H', I'.turned (t' := s'.toks) (fun b o hb e => (sb.2 b hb).trans e) f0 f1 f3 f4 f5, rfl, q⟩
/-- name = {..} on one line, the name a local -/
theorem ps_setDcP {i : Nat} {y : Str} {py spos : Pos} (hu : X.A.units + 1 < cLine) (ho : o0 = .dK [] ∨ o0 = .dT []) (hc : X.calm = true) (hN : X.N.Nodup) (hy : X.N[i]? = some y) (hyl : X.env.scope.names.lookup y = some .local)
    (hsw : swapsWith (.DictComp kx vx [⟨tg, iter, ifs, 0⟩] scope pos) (some (.Name y py)) spos.line X.env = pure true) (hi : PI X tg iter wi) (ok : BlkOk X.N X.env.scope scope own)
    (hg : InBlk X scope fun Y => PG Y tg g) (ht : InBlk X scope fun Y => PTs Y ifs tt) (hk : InBlk X scope fun Y => PE Y kx tk) (hv : InBlk X scope fun Y => PE Y vx tv)
    (hs : ∀ x, foldedSetIterable iter X.env x = pure x := by intro _; rfl) : L2.PS X (.Assign [.Name y py] (.DictComp kx vx [⟨tg, iter, ifs, 0⟩] scope pos) spos) (tAsg (tDcP o0 wi g tt tk tv (own.map (·.2))) (gName i)) := by
  refine ⟨fun pins s σ H D I h => ?_⟩
  rw [exec_Assign_Name_used _ _ _ _ hsw]
  refine wpAny_bind (wpAny_standAt (wpAny_bind ?_))
  show wpAny _ X.A (do let _ ← comprehension (.DictComp kx vx [⟨tg, iter, ifs, 0⟩] scope pos) scope X.env (firstIterPos [⟨tg, iter, ifs, 0⟩] pos) newDict false (eval iter X.env) (some (assign (.Name y py) X.env))) _ _ s
  have h : tDcP o0 wi g tt tk tv (own.map (·.2)) σ H (fun x H1 => gName i x σ H1 D.nx) := h
  refine wpAny_bind (thn (dcP_core (Qf := fun _ s' => SP X pins D .next s') hu ho hc hN I hi ok hg ht hk hv hs h fun L C s' m H' I' q hn f => ?_) fun _ s' hq => wpAny_pure (wpAny_pure hq))
  show wpAny _ _ (assign (.Name y py) X.env (.ref L)) _ _ _
  refine wpAny_assign_Name (store_ok2 (v := V.ref L) I' hN hy (.inl hyl) rfl (fun s2 I2 ⟨a, sb, ha⟩ => ?_) (.inr hyl))
  obtain ⟨f0, f1, f2, f3, f4, f5⟩ := f
  have haC : C ≠ a := by
    rcases ha with z | z
    · rw [z]; exact f1
    · exact fun e => f4 y a z e.symm
  refine ⟨m, hn.sameBut sb haC, fun h3 sb3 => ?_⟩
  exact ⟨_, H', I2.turned (t' := s2.toks) (fun b o hb e => (sb3.2 b hb).trans e) f0 f1 f3 f4 f5, q⟩
theorem sw_trueD {scope : Scope} {pos py : Pos} {gs : List Comprehension} {y : Str} {l : Nat} {env : Env} (hk : env.scope.kind = .function) (hy : env.scope.names.lookup y = some .local) (hl : (py.line == pos.line) = true)
    (ha : (scope.names.any fun (n, k) => n == y && (k == .local || k == .cell)) = false) : swapsWith (.DictComp kx vx gs scope pos) (some (.Name y py)) l env = pure true := by
  have ky : env.kindOf y = some .local := hy
  have hb : env.blockKind = .function := by unfold Env.blockKind; rw [hk]; rfl
  unfold swapsWith
  simp only [hb, ky, ha, Expr.pos, hl]
  rfl
end
end G98
namespace G98
open PySem PySem.Spec PyProof.Rows L2
/-! the items of a dict whose keys are tuples -/
section
variable {X : Cx} {pins : List (Addr × Obj)} {σ : Sl} {H : Hp} {s : Shared} {d : Addr} {o : Obj}
theorem raw_items {kvs : List (List Key × V)} (I : Inv X pins σ H s) (h : H d = some (.frz o (.dT kvs))) :
    (d == sysModules) = false ∧ ∃ (es : Array DictEntry) (ep : Nat), o.data = .dict es ep ∧ s.heap.DictRaw d es ep ∧ es.size = kvs.length ∧
      ∀ (i : Nat) (k : List Key) (v : V), kvs[i]? = some (k, v) → ∃ (en : DictEntry) (q : Addr), es[i]? = some en ∧ en.key = .ref q ∧ H q = some (.tup (k.map kV)) ∧ RelV v en.val := by
  obtain ⟨hd, z, hs, xs, pr, o', es, ep, ho, hx, hdt, he, _⟩ := I.hok d _ h
  rw [hd] at ho
  cases ho
  refine ⟨hs, es, ep, hdt, ⟨_, hd, hx, hdt⟩, ?_, fun i k v e => ?_⟩
  · have l1 : es.size = xs.length := size_of_entries he
    have l2 : kvs.length = xs.length := Paired.length pr
    omega
  · obtain ⟨b, hb, e1, e2, e3⟩ := paired_get pr e
    have q := entry_at he i
    rw [hb] at q
    exact ⟨_, b.2.1, q, rfl, e2, e3⟩
end
/-- at each turn a new pair of a key's tuple and its value -/
def ItP (d : Addr) (o : Obj) (kvs : List (List Key × V)) : It :=
  ⟨fun i H => H d = some (.frz o (.dT kvs)) ∧ i < kvs.length,
    fun i H x H' => ∃ (T q : Addr) (k : List Key) (v : V), kvs[i]? = some (k, v) ∧ H q = some (.tup (k.map kV)) ∧ x = .ref T ∧ H T = none ∧ H' = upd H T (.tup [.ref q, v]),
    fun i H => H d = some (.frz o (.dT kvs)) ∧ kvs.length ≤ i⟩
theorem turn_itemsP {P : Program} {w : World} {K : PySem.W.Frag} {d : Addr} {o : Obj} {kvs : List (List Key × V)} {elts : List Expr} {kk : Nat} {tpos : Pos} {es : Array DictEntry} {ep : Nat} (it : Addr) (hdi : d ≠ it) (hod : o.data = .dict es ep) (hz : es.size = kvs.length) :
    Turn P w K (.Tuple elts kk tpos) (ItP d o kvs) [it] it (fun i h => ∃ ok ov, IsItemIter h it d i es.size ep ok ov) where
  mem := by simp
  obj := fun i h st b hb => by
    have e : b = it := by simpa using hb
    subst e
    obtain ⟨ok, ov, e⟩ := st
    exact ⟨_, e, fun v z => by cases z⟩
  keep := fun i h h' st k => by
    obtain ⟨ok, ov, e⟩ := st
    exact ⟨ok, ov, k it (by simp) _ e⟩
  item := by
    intro X hP hw hK hc i pins s σ H E I hf st hg
    subst hP hw hK
    obtain ⟨hd, hi⟩ := hg
    obtain ⟨hs, es', ep', hdt, raw, hsz, ent⟩ := raw_items I hd
    obtain ⟨rfl, rfl⟩ := dict_ep hod hdt
    obtain ⟨⟨k, v⟩, hkv⟩ : ∃ p, kvs[i]? = some p := ⟨kvs[i], List.getElem?_eq_getElem hi⟩
    obtain ⟨en, q, hen, hkey, hq, rv⟩ := ent i k v hkv
    have lt : it < s.heap.objs.size := by obtain ⟨_, _, e⟩ := st; exact Heap.lt_size e
    have G := GoesN.rawItems (prog := X.prog) (w := X.w) (A := X.A) (elts := elts) (x1 := kk) (pos := tpos) (I.ok.hd hc) it d hdi es' ep'
    refine wpAny_mono (G.goes i s (fun v s2 => ∃ x H', Inv X pins σ H' s2 ∧ RelV x v ∧ (ItP d o kvs).yld i H x H' ∧ (∃ ok ov, IsItemIter s2.heap it d (i + 1) es'.size ep' ok ov) ∧ ∀ b ∈ [it], H' b = none) E (by omega) ⟨st, raw⟩ fun u h' tk hY st' hk htk => ?_) (fun r s1 h => h) fun _ _ h => h
    obtain ⟨T, hi2, eu, hnew, hT⟩ := hY
    subst eu
    have hen2 : es'[i] = en := by
      have := Array.getElem?_eq_getElem hi2
      rw [hen] at this
      exact (Option.some.inj this).symm
    rw [hen2] at hT
    obtain ⟨oT, hoT, hcT, nT, hdT⟩ := hT
    have hnone : H T = none := I.hok.fresh hnew
    have new : ObjOk X.prog X.w (upd H T (.tup [.ref q, v])) h' T (.tup [.ref q, v]) :=
      ⟨by show 2 ≤ sizeLine; decide, [en.key, en.val], .cons hkey (.cons rv .nil), ⟨oT, hoT, hcT, nT, hdT⟩⟩
    have I1 : Inv X pins σ (upd H T (.tup [.ref q, v])) { s with heap := h', toks := tk } :=
      I.turnedNew (ch := [it]) (fun b ob hb e => hk b ob hb e) hf hnew new
    refine ⟨.ref T, _, I1, rfl, ⟨T, q, k, v, hkv, hq, rfl, hnone, rfl⟩, st'.1, fun b hb => ?_⟩
    have e : b = it := by simpa using hb
    subst e
    rw [upd_ne (Nat.ne_of_lt (Nat.lt_of_lt_of_le lt hnew))]
    exact (hf b hb).1
  done := by
    intro X hP hw hK hc i pins s σ H E I hf st hg
    subst hP hw hK
    obtain ⟨hd, hi⟩ := hg
    obtain ⟨hs, es', ep', hdt, raw, hsz, ent⟩ := raw_items I hd
    obtain ⟨rfl, rfl⟩ := dict_ep hod hdt
    obtain ⟨f0, f1, f2, f3, f4, f5⟩ := hf it (by simp)
    obtain ⟨ok, ov, e⟩ := st
    refine DT.endI (I.ok.hd hc) e raw (by omega) fun h' eb => ⟨rfl, I.turned (t' := s.toks) (fun b ob hb e => eb b ob hb e) f0 f1 f3 f4 f5⟩
  self := fun A i s Q E st h => by
    obtain ⟨ok, ov, e⟩ := st
    exact PySem.W.kcp_self e h
def iItemsP (td : TE) : TI := fun σ H R => td σ H fun x H1 => ∃ d o kvs, x = .ref d ∧ H1 d = some (.frz o (.dT kvs)) ∧ R (ItP d o kvs) H1
theorem pi_itemsP {X : Cx} {e : Expr} {td : TE} {elts : List Expr} {kk : Nat} {tpos apos cpos : Pos} (he : PE X e td) (hbase : attributeBase e "items" X.env (eval e X.env) = eval e X.env := by rfl) (hline : (apos.endLine == cpos.line) = true := by rfl) :
    PI X (.Tuple elts kk tpos) (.Call (.Attribute e "items" apos) [] [] cpos) (iItemsP td) := by
  refine ⟨fun pins s σ H R I h => ?_⟩
  refine wpAny_Call_method (T := "dict") (id := "dict.items") hbase rfl hline F.plainAttrs_dict F.slot_dict_items F.type_dict_items (thn (he.run pins s σ H _ I h) fun u s1 h1 => ?_)
  obtain ⟨x, H1, I1, rx, d, o, kvs, ex, hd, q⟩ := h1
  subst ex
  obtain rfl : u = Value.ref d := rx
  obtain ⟨hs, es, ep, hdt, raw, hsz, ent⟩ := raw_items I1 hd
  obtain ⟨ob, hob, hxo, hdo⟩ := id raw
  have hlt : d < s1.heap.objs.size := Heap.lt_size hob
  have I2 : Inv X pins σ H1 { s1 with heap := s1.heap.push { cls := .type "dict_items", data := .fields #[.ref d] } } := I1.kept (t' := s1.toks) fun b ob q => Heap.get?_push_of_some _ q
  have raw2 : ({ s1 with heap := s1.heap.push { cls := .type "dict_items", data := .fields #[.ref d] } } : Shared).heap.DictRaw d es ep := raw.at fun _ e => Heap.get?_push_of_some _ e
  have hsz2 : (s1.heap.push { cls := .type "dict_items", data := .fields #[.ref d] }).objs.size = s1.heap.objs.size + 1 := Heap.size_push ..
  have fin : wpAny (model X.prog X.w) X.A (pyIter (.ref s1.heap.objs.size)) (PIE X pins σ (.Tuple elts kk tpos) R) X.xe { s1 with heap := s1.heap.push { cls := .type "dict_items", data := .fields #[.ref d] } } := by
    refine wpAny_pyIter_items_raw ⟨_, Heap.get?_push_size _ rfl, rfl, rfl⟩ raw2 (pi_one (tk := s1.toks) I2 _ (turn_itemsP _ (by rw [hsz2]; exact Nat.ne_of_lt (Nat.lt_succ_of_lt hlt)) hdt hsz) ⟨.none, .none, ?_⟩ q)
    exact Heap.get?_push_size _ rfl
  refine ⟨raw.typeIs, fun a ea => ?_, ?_⟩
  · cases ea
    exact ⟨ob, hob, hxo.2.1⟩
  · exact method_meetsIn F.slot_dict_items F.entry_dict_items rfl (PySem.evalArgs_none ⟨rfl, raw.typeIs, F.args_dict_items_1 _, _, meets_dict_items_raw d hs, ⟨es, ep, raw⟩, fin⟩)
end G98
namespace G98
open PySem PySem.Spec PyProof.Rows L2
/-! a dict whose keys are whole numbers and None (its values are not told) -/
abbrev OI := Option Int
def lf : OI → Leaf
  | none => .none
  | some i => .num i
def lfV : OI → V
  | none => .non
  | some i => .int i
theorem lf_dec (a b : OI) : decide (lf a = lf b) = decide (a = b) := by
  have h : lf a = lf b ↔ a = b := by
    cases a <;> cases b <;> simp [lf]
  rw [Bool.eq_iff_iff, decide_eq_true_eq, decide_eq_true_eq]
  exact h
def oiIs : OI → Value → Bool
  | none, v => v == .none
  | some i, v => Value.isInt i v
theorem oi_shape {y : OI} {v : Value} (h : oiIs y v = true) : (y = none ∧ v = .none) ∨ ∃ i t, y = some i ∧ v = .int i t := by
  cases y with
  | none => exact .inl ⟨rfl, by cases v <;> first | rfl | cases h⟩
  | some i =>
    obtain ⟨t, e⟩ := Value.isInt_shape (k := i) (v := v) h
    exact .inr ⟨i, t, rfl, e⟩
theorem oi_leaf {y : OI} {v : Value} (h : oiIs y v = true) : Leaf.isOf (lf y) v = true := by
  rcases oi_shape h with ⟨rfl, rfl⟩ | ⟨i, t, rfl, rfl⟩
  · rfl
  · exact decide_eq_true rfl
theorem oi_rel {y : OI} {v : Value} (h : oiIs y v = true) : RelV (lfV y) v := by
  rcases oi_shape h with ⟨rfl, rfl⟩ | ⟨i, t, rfl, rfl⟩
  · rfl
  · exact ⟨t, rfl⟩
theorem oi_of {y : OI} {v : Value} (r : RelV (lfV y) v) : oiIs y v = true := by
  cases y with
  | none =>
    obtain rfl : v = Value.none := r
    rfl
  | some i =>
    obtain ⟨t, rfl⟩ : ∃ t, v = Value.int i t := r
    exact keyIs_int i t
def oiKind (P : Program) (w : World) : PySem.KeyKind P w OI where
  is := oiIs
  hash := fun k => (leafKind P w).hash (lf k)
  inj := fun v a b ha hb => by
    rcases oi_shape ha with ⟨rfl, rfl⟩ | ⟨i, t, rfl, rfl⟩
    · rcases oi_shape hb with ⟨rfl, _⟩ | ⟨j, u, _, e⟩
      · rfl
      · cases e
    · rcases oi_shape hb with ⟨_, e⟩ | ⟨j, u, rfl, e⟩
      · cases e
      · injection e with e
        rw [e]
  byValue := fun k v h => Leaf.byValue (oi_leaf h)
  pyHash := fun hv h => pyHash_leaf (oi_leaf hv) h
  eqBool := fun {A E s a b u v Q} ha hb h => eqAt_leaf (A := A) (s := s) (oi_leaf ha) (oi_leaf hb) P w E Q (by rw [lf_dec]; exact h)
  «strs» := fun k x t v h => by
    rcases oi_shape h with ⟨_, e⟩ | ⟨i, u, _, e⟩
    · cases e
    · cases e
def LfSt (P : Program) (w : World) (a : Addr) (ks : List OI) (h : Heap) : Prop :=
  (a == sysModules) = false ∧ ks.length ≤ sizeLine ∧ ∃ vs : List (OI × Value), vs.map (·.1) = ks ∧ h.DictOf (oiKind P w) a vs
def LfO (P : Program) (w : World) (a : Addr) (ks : List OI) : HO := .ext (LfSt P w a ks)
def putL (ks : List OI) (y : OI) : List OI := if y ∈ ks then ks else ks ++ [y]
section
variable {X : Cx} {pins : List (Addr × Obj)} {σ : Sl} {H : Hp} {s : Shared} {a : Addr} {ks : List OI}
theorem lf_ok {h : Heap} {H' : Hp} (x : LfSt X.prog X.w a ks h) : ObjOk X.prog X.w H' h a (LfO X.prog X.w a ks) := by
  refine ⟨x, ?_, fun h1 h2 x1 k => ?_⟩
  · obtain ⟨_, _, vs, _, o, es, ep, ho, _⟩ := x
    exact ⟨o, ho⟩
  · obtain ⟨y1, y2, vs, e, o, es, ep, ho, r⟩ := x1
    exact ⟨y1, y2, vs, e, o, es, ep, k o ho, r⟩
/-- some[y] = anything -/
def sLf (P : Program) (w : World) : TSet := fun o i v H Q => ∃ (a : Addr) (ks : List OI) (y : OI), o = .ref a ∧ i = lfV y ∧ H a = some (LfO P w a ks) ∧ ks.length < sizeLine ∧ Q (upd H a (LfO P w a (putL ks y)))
theorem set_lf : PSet X (sLf X.prog X.w) := by
  intro pins s σ H o i v ov iv u Q I ro ri rv h
  obtain ⟨a, ks, y, eo, ei, ha, hl, q⟩ := h
  subst eo
  subst ei
  obtain rfl : ov = Value.ref a := ro
  obtain ⟨hs, hz, vs, e, dd⟩ := (I.hok a _ ha).1
  have hvl : vs.length = ks.length := by rw [← e, List.length_map]
  refine wpAny_setItem_pairs (knd := oiKind X.prog X.w) (hsz := by omega) (oi_of ri) dd fun h' dd' hs' => ?_
  have hp : (stored vs y u).map (·.1) = putL ks y := by
    rw [keys_stored, e]
    unfold putL
    by_cases h : y ∈ ks
    · rw [if_pos h, if_pos h]
    · rw [if_neg h, if_neg h]
  have hl2 : (putL ks y).length ≤ sizeLine := by
    rw [← hp, List.length_map]
    have := stored_length_le vs y u
    omega
  have he : ∃ q, h'.get? a = some q := let ⟨q, _, _, hq, _⟩ := dd'; ⟨q, hq⟩
  exact ⟨_, d_write I (by rw [ha]; exact True.intro) hs' he (lf_ok ⟨hs, hl2, _, hp, dd'⟩), q⟩
/-- {k: v} of one whole number -/
def tLf1 (P : Program) (w : World) (tk tv : TE) : TE := fun σ H Q => ∀ p, H p = none → tPairs [(tk, tv)] σ (upd H p (.dK [])) fun ps H2 => H2 p = some (.dK []) ∧ ∃ (i : Int) (z : V), ps = [(.int i, z)] ∧ Q (.ref p) (upd H2 p (LfO P w p [some i]))
theorem pe_lf1 {k v : Expr} {pos : Pos} {tk tv : TE} (hk : PE X k tk) (hv : PE X v tv) : PE X (.Dict [some k] [v] pos) (tLf1 X.prog X.w tk tv) := by
  refine ⟨fun pins s σ H Q I q => ?_⟩
  have hn := I.hok.fresh (Nat.le_refl s.heap.objs.size)
  have I1 := I.laid (a := s.heap.objs.size) (o := .dK []) (h' := s.heap.push { cls := .type "dict", data := .dict #[] }) (t' := s.toks) (fun _ _ q => Heap.get?_push_of_some _ q) (Nat.le_refl _) (dk_empty s.heap I.big)
  refine wpAny_Dict_walk (knd := oiKind X.prog X.w) rfl rfl (by simp) (by show 1 ≤ 15; decide) (thn ((pps_cons hk hv pps_nil).run pins _ σ _ _ I1 (q _ hn)) fun ws s2 h2 => ?_)
  obtain ⟨ps, H2, I2, rel, e, i, z, eps, q2⟩ := h2
  subst eps
  cases rel with
  | @cons p wv ps' ws' r0 r1 =>
    cases r1
    obtain ⟨r2, r3⟩ := r0
    obtain ⟨w1, w2⟩ := wv
    obtain ⟨hz, hd, vs0, r4, o, es, ep, h1, h2, h3, h4, h5, h6⟩ := dk_of I2.hok e
    cases r4
    have hes : es = #[] := by
      have := h5.length
      exact Array.eq_empty_of_size_eq_zero (by simpa using this)
    subst hes
    have dd : s2.heap.DictOf (oiKind X.prog X.w) s.heap.objs.size [] := ⟨o, #[], ep, h1, h2, h3, fun e he => by simp at he, by first | exact h5 | exact .nil | trivial, List.nodup_nil⟩
    refine ⟨[(some i, w2)], ⟨oi_of (y := some i) r2, rfl, True.intro⟩, dd, fun h' dd' hs => ⟨.ref s.heap.objs.size, _, ?_, rfl, q2⟩⟩
    have he : ∃ q, h'.get? s.heap.objs.size = some q := let ⟨q, _, _, hq, _⟩ := dd'; ⟨q, hq⟩
    exact d_write I2 (by rw [e]; exact True.intro) hs he (lf_ok ⟨hd, by show 1 ≤ sizeLine; decide, _, rfl, dd'⟩)
end
/-- its keys, locked -/
def ItL (P : Program) (w : World) (d : Addr) (o : Obj) (ks : List OI) : It :=
  ⟨fun i H => H d = some (.frz o (LfO P w d ks)) ∧ i < ks.length, fun i H x H' => H' = H ∧ ∃ y, ks[i]? = some y ∧ x = lfV y, fun i H => H d = some (.frz o (LfO P w d ks)) ∧ ks.length ≤ i⟩
section
variable {X : Cx} {pins : List (Addr × Obj)} {σ : Sl} {H : Hp} {s : Shared} {d : Addr} {o : Obj} {ks : List OI}
theorem raw_lf (I : Inv X pins σ H s) (h : H d = some (.frz o (LfO X.prog X.w d ks))) :
    (d == sysModules) = false ∧ s.heap.get? d = some o ∧ o.ExactDict ∧ ∃ (es : Array DictEntry) (ep : Nat), o.data = .dict es ep ∧ es.size = ks.length ∧ ∀ (i : Nat) (y : OI), ks[i]? = some y → ∃ en, es[i]? = some en ∧ RelV (lfV y) en.key := by
  obtain ⟨hd, ⟨hs, hz, vs, e, dd⟩, _⟩ := I.hok d _ h
  obtain ⟨es, ep, ⟨o', ho, hx, hdt⟩, hsz, ent⟩ := dd.raw
  rw [hd] at ho
  cases ho
  have hvl : vs.length = ks.length := by rw [← e, List.length_map]
  refine ⟨hs, hd, hx, es, ep, hdt, by omega, fun i y hy => ?_⟩
  rw [← e, List.getElem?_map] at hy
  obtain ⟨p, hp, ep2⟩ := Option.map_eq_some_iff.mp hy
  have hi : i < es.size := by
    have := (List.getElem?_eq_some_iff.mp hp).1
    omega
  obtain ⟨k, v⟩ := p
  cases ep2
  exact ⟨es[i], Array.getElem?_eq_getElem hi, oi_rel (ent i hi k v hp).1⟩
end
theorem turn_lf {P : Program} {w : World} {K : PySem.W.Frag} {tg : Expr} {d : Addr} {o : Obj} {ks : List OI} {es : Array DictEntry} {ep : Nat} (it : Addr) (hod : o.data = .dict es ep) : Turn P w K tg (ItL P w d o ks) [it] it (fun i h => h.IsKeyIter it d i ks.length ep) where
  mem := by simp
  obj := fun i h st b hb => by
    have e : b = it := by simpa using hb
    subst e
    obtain ⟨oi, e, c, dd⟩ := st
    exact ⟨oi, e, fun v z => by rw [dd] at z; cases z⟩
  keep := fun i h h' st k => by
    obtain ⟨oi, e, r⟩ := st
    exact ⟨oi, k it (by simp) oi e, r⟩
  item := by
    intro X hP hw hK hc i pins s σ H E I hf st hg
    subst hP hw hK
    obtain ⟨hd, hi⟩ := hg
    obtain ⟨f0, f1, f2, f3, f4, f5⟩ := hf it (by simp)
    obtain ⟨hs, hgd, hx, es', ep', hdt, hsz, ent⟩ := raw_lf I hd
    obtain ⟨rfl, rfl⟩ := dict_ep hod hdt
    have hy : ks[i]? = some ks[i] := List.getElem?_eq_getElem hi
    obtain ⟨en, hen, hkey⟩ := ent i _ hy
    refine next_key_item st hgd hdt hsz hen fun h' st' sb => ?_
    have I1 : Inv X pins σ H { s with heap := h' } := I.turned (t' := s.toks) (fun b ob hb e => (sb.2 b hb).trans e) f0 f1 f3 f4 f5
    obtain ⟨oi, e, c, dd⟩ := id st'
    exact ⟨en.key, rfl, go_of (s := { s with heap := h' }) e c dd (by decide) ⟨lfV ks[i], H, I1, hkey, ⟨rfl, _, hy, rfl⟩, st', fun b hb => (hf b hb).1⟩⟩
  done := by
    intro X hP hw hK hc i pins s σ H E I hf st hg
    subst hP hw hK
    obtain ⟨hd, hi⟩ := hg
    obtain ⟨f0, f1, f2, f3, f4, f5⟩ := hf it (by simp)
    obtain ⟨hs, hgd, hx, es', ep', hdt, hsz, ent⟩ := raw_lf I hd
    obtain ⟨rfl, rfl⟩ := dict_ep hod hdt
    exact next_key_end (I.ok.hd hc) st hgd hdt hsz hi fun h' eb => ⟨rfl, I.turned (t' := s.toks) (fun b ob hb e => eb b ob hb e) f0 f1 f3 f4 f5⟩
  self := fun A i s Q E st h => by
    refine wpAny_pyIter_slot st.typeIs F.slot_dict_keyiterator_iter (wpAny_call_entry F.slot_dict_keyiterator_iter st.typeIs F.entry_dict_keyiterator_iter ?_ (F.args_dict_keyiterator_iter_1 _))
    exact wpAny_pure ⟨_, rfl, "dict_keyiterator", _, st.typeIs, F.slot_dict_keyiterator_next.lookup, h⟩
def iLf (P : Program) (w : World) (td : TE) : TI := fun σ H R => td σ H fun x H1 => ∃ d o ks, x = .ref d ∧ H1 d = some (.frz o (LfO P w d ks)) ∧ R (ItL P w d o ks) H1
theorem pi_lf {X : Cx} {tg e : Expr} {td : TE} (he : PE X e td) : PI X tg e (iLf X.prog X.w td) := by
  refine ⟨fun pins s σ H R I h => ?_⟩
  refine thn (he.run pins s σ H _ I h) fun u s1 h1 => ?_
  obtain ⟨x, H1, I1, rx, d, o, ks, ex, hd, q⟩ := h1
  subst ex
  obtain rfl : u = Value.ref d := rx
  obtain ⟨hs, hgd, hx, es, ep, hdt, hsz, ent⟩ := raw_lf I1 hd
  refine iter_keys hs hgd hx hdt (pi_one (tk := s1.toks) I1 _ (turn_lf _ hdt) ⟨_, Heap.get?_push_size _ rfl, rfl, ?_⟩ q)
  rw [hsz]
  rfl
theorem walk_lf {P : Program} {w : World} {d : Addr} {o : Obj} {ks : List OI} : Walk (ItL P w d o ks) ks.length (fun H => H d = some (.frz o (LfO P w d ks))) (fun i H x H' => H' = H ∧ ∃ y, ks[i]? = some y ∧ x = lfV y) := by
  exact ⟨fun _ _ hi q => ⟨q, hi⟩, fun _ q => ⟨q, Nat.le_refl _⟩, fun _ _ _ _ _ _ y => y⟩
theorem walk_itemsP {d : Addr} {o : Obj} {kvs : List (List Key × V)} : Walk (ItP d o kvs) kvs.length (fun H => H d = some (.frz o (.dT kvs)))
    (fun i H x H' => ∃ (T q : Addr) (k : List Key) (v : V), kvs[i]? = some (k, v) ∧ H q = some (.tup (k.map kV)) ∧ x = .ref T ∧ H T = none ∧ H' = upd H T (.tup [.ref q, v])) :=
  ⟨fun _ _ hi q => ⟨q, hi⟩, fun _ q => ⟨q, Nat.le_refl _⟩, fun _ _ _ _ _ _ y => y⟩
end G98
namespace G98
open PySem PySem.Spec PyProof.Rows L2
/-! enumerate of a tuple -/
theorem meets_enumT {v : Value} {o : Obj} {G : Heap → Prop} (B : Begins v o G) :
    Meets (Builtin.«enumerate.__new__» ⟨[.type "enumerate", v], []⟩) (fun _ R s => G s.heap ∧
      R (.ok (.ret (.ref (s.heap.push o).objs.size))) { s with heap := (s.heap.push o).push { cls := .type "enumerate", data := .fields #[.none, .bool false, .ref s.heap.objs.size, rawInt 0, .none, .none] } }) :=
  .of_wp fun prog w A R s h => by
    obtain ⟨hp, g, d, tk, os⟩ := s
    obtain ⟨h1, h⟩ := h
    have hsub := sub_enumerate
    have q1 : ∀ {A' : Around} {E : Value → Shared → Prop} {Q : Value → Shared → Prop}, Q (.ref hp.objs.size) ⟨hp.push o, g, d, tk, os⟩ → wpAny (model prog w) A' (pyIter v) Q E ⟨hp, g, d, tk, os⟩ := fun q => B.iter prog w _ _ ⟨hp, g, d, tk, os⟩ _ h1 q
    wp_walk using q1
    refine wpAny_stack_any fun st => wpAny_pure ?_
    split
    · rename_i c _ _ _ _ _
      cases (c == Value.type "enumerate") <;> (wp_walk using q1; exact ⟨_, rfl, h⟩)
    · wp_walk using q1
      exact ⟨_, rfl, h⟩
theorem call_enumT {prog : Program} {w : World} {A : Around} {E : Value → Shared → Prop} {s : Shared} {t : Addr} {items : Array Value} {Q : Value → Shared → Prop} (ht : s.heap.IsTuple t items)
    (h : ∀ h', IsEnum h' (s.heap.objs.size + 1) s.heap.objs.size 0 .none → h'.IsTupleIter s.heap.objs.size t 0 → (∀ b o, s.heap.get? b = some o → h'.get? b = some o) → Q (.ref (s.heap.objs.size + 1)) { s with heap := h' }) :
    wpAny (model prog w) A (call (.type "enumerate") [.ref t]) Q E s := by
  refine callType_new F.called_enumerate (by decide) (F.typeCall_enumerate_1 _) (F.newCall_enumerate_1 _) (fun obj => F.args_object_init_2 obj _) F.entry_enumerate_new (meets_enumT (begins_tuple t items)) ⟨ht, ?_⟩
  have hz : (s.heap.push { cls := .type "tuple_iterator", data := .fields #[.ref t, .int 0 0] }).objs.size = s.heap.objs.size + 1 := Heap.size_push ..
  show _ ∧ _
  rw [hz]
  have he : IsEnum ((s.heap.push { cls := .type "tuple_iterator", data := .fields #[.ref t, .int 0 0] }).push { cls := .type "enumerate", data := .fields #[.none, .bool false, .ref s.heap.objs.size, rawInt 0, .none, .none] }) (s.heap.objs.size + 1) s.heap.objs.size 0 .none := by
    have := Heap.get?_push_size (s.heap.push { cls := .type "tuple_iterator", data := .fields #[.ref t, .int 0 0] }) (o := { cls := .type "enumerate", data := .fields #[.none, .bool false, .ref s.heap.objs.size, rawInt 0, .none, .none] }) rfl
    rw [hz] at this
    exact this
  exact ⟨⟨_, he, rfl⟩, h _ he ⟨_, Heap.get?_push_of_some _ (Heap.get?_push_size _ rfl), rfl, rfl⟩ fun b o x => Heap.get?_push_of_some _ (Heap.get?_push_of_some _ x)⟩
def ItE (K : PySem.W.Frag) (a : Addr) : It :=
  ⟨fun i H => ∃ (xs : List V) (x : V), SqT K H a xs ∧ xs[i]? = some x, fun i H v H' => ∃ T x, v = .ref T ∧ H T = none ∧ H' = upd H T (.tup [.int (i : Nat), x]) ∧ ∀ xs, SqT K H a xs → xs[i]? = some x, fun i H => ∃ xs : List V, SqT K H a xs ∧ xs.length = i⟩
theorem turn_enumT {P : Program} {w : World} {K : PySem.W.Frag} {elts : List Expr} {kk : Nat} {tpos : Pos} (a e it : Addr) (hai : a ≠ it) (hae : a ≠ e) :
    Turn P w K (.Tuple elts kk tpos) (ItE K a) [e, it] e (fun i h => (∃ old, IsEnum h e it ((i : Nat) : Int) old) ∧ h.IsTupleIter it a i ∧ e ≠ it) where
  mem := by simp
  obj := fun i h st b hb => by
    obtain ⟨⟨old, he⟩, ⟨o, ho, hc, hd⟩, _⟩ := st
    have e' : b = e ∨ b = it := by simpa using hb
    rcases e' with z | z
    · rw [z]; exact ⟨_, he, fun v q => by cases q⟩
    · rw [z]; exact ⟨o, ho, fun v q => by rw [hd] at q; cases q⟩
  keep := fun i h h' st k => let ⟨⟨old, he⟩, hi, hne⟩ := st; ⟨⟨old, k e (by simp) _ he⟩, hi.at fun o q => k it (by simp) o q, hne⟩
  item := by
    intro X hP hw hK hc i pins s σ H E I hf st hg
    subst hP hw hK
    obtain ⟨⟨old, he⟩, hit, hne⟩ := st
    obtain ⟨xs, x, hq, hx⟩ := hg
    obtain ⟨its, rv, p, hz⟩ := I.tuple hq
    obtain ⟨u, hu, ru⟩ := rv.get hx
    have lte : e < s.heap.objs.size := Heap.lt_size he
    have lti : it < s.heap.objs.size := by obtain ⟨_, q, _⟩ := hit; exact Heap.lt_size q
    have hin : i < its.toArray.size := by simpa using (List.getElem?_eq_some_iff.mp hu).1
    have Dr := Draws.tuple (prog := X.prog) (w := X.w) (A := X.A.in1) (I.ok.hd hc) it a hai its.toArray
    refine wpAny_pyNext_enum_itemC (fp := [it, a]) Dr he ⟨hit, p⟩ hin hne (by simp only [List.mem_cons, List.not_mem_nil, or_false, not_or]; exact ⟨hne, fun z => hae z.symm⟩) fun y h' tk hy ho st' hT hsz hk => ?_
    have hyu : y = u := by
      have hu2 : its.toArray[i]? = some u := by simpa using hu
      rw [hu2] at hy
      exact (Option.some.inj hy).symm
    subst hyu
    refine ⟨_, rfl, wpAny_letOwnedTupleGo_enum (s := { s with heap := h', toks := tk + 1 }) ho fun h'' he' sb => ?_⟩
    have hT2 : h''.get? s.heap.objs.size = some { cls := .type "tuple", data := .seq #[.int i tk, y] } := (sb.2 _ (Nat.ne_of_gt lte)).trans hT
    have new : ObjOk X.prog X.w (upd H s.heap.objs.size (.tup [.int (i : Nat), x])) h'' s.heap.objs.size (.tup [.int (i : Nat), x]) :=
      ⟨by show 2 ≤ sizeLine; decide, [.int i tk, y], .cons ⟨_, rfl⟩ (.cons ru .nil), ⟨_, hT2, rfl, _, rfl⟩⟩
    have I1 : Inv X pins σ (upd H s.heap.objs.size (.tup [.int (i : Nat), x])) { s with heap := h'', toks := tk + 1 } :=
      I.turnedNew (ch := [e, it]) (fun b ob hb q => (sb.2 b (fun z => hb (by simp [z]))).trans (hk b ob (fun z => hb (by simp [z])) (fun z => hb (by simp [z])) q)) hf (Nat.le_refl _) new
    refine ⟨.ref s.heap.objs.size, _, I1, rfl, ⟨_, x, rfl, I.hok.fresh (Nat.le_refl _), rfl, fun ys hy => by rw [I.tuple_inj hy hq]; exact hx⟩, ⟨⟨y, ?_⟩, st'.1.at fun o q => (sb.2 it (Ne.symm hne)).trans q, hne⟩, fun b hb => ?_⟩
    · have e1 : ((i + 1 : Nat) : Int) = (i : Int) + 1 := by omega
      rw [e1]
      exact he'
    · have hb' : b < s.heap.objs.size := by
        have e' : b = e ∨ b = it := by simpa using hb
        rcases e' with z | z <;> rw [z]
        · exact lte
        · exact lti
      rw [upd_ne (Nat.ne_of_lt hb')]
      exact (hf b hb).1
  done := by
    intro X hP hw hK hc i pins s σ H E I hf st hg
    subst hP hw hK
    obtain ⟨⟨old, he⟩, hit, hne⟩ := st
    obtain ⟨xs, hq, hx⟩ := hg
    obtain ⟨its, rv, p, hz⟩ := I.tuple hq
    have hl := rv.length
    have Dr := Draws.tuple (prog := X.prog) (w := X.w) (A := X.A.in1) (I.ok.hd hc) it a hai its.toArray
    have en : its.toArray.size = i := by
      show its.length = i
      omega
    obtain ⟨f0, f1, f2, f3, f4, f5⟩ := hf it (by simp)
    exact wpAny_pyNext_enum_endD Dr he ⟨by rw [en]; exact hit, p⟩ fun h' eb => ⟨rfl, I.turned (t' := s.toks) (fun b o hb q => eb b o hb q) f0 f1 f3 f4 f5⟩
  self := fun A i s Q E st h => by
    obtain ⟨⟨old, he⟩, _⟩ := st
    exact wpAny_pyIter_enum he h
def iEnumT (K : PySem.W.Frag) (ta : TA) : TI := fun σ H R => ta σ H fun vs H1 => ∃ a xs, vs = [.ref a] ∧ SqT K H1 a xs ∧ R (ItE K a) H1
theorem pi_enumT {X : Cx} {e : Expr} {ta : TA} {p pos tpos : Pos} {elts : List Expr} {kk : Nat} (hg : Gl X "enumerate") (hm : X.mg "enumerate" = none) (ha : PA X [e] ta) (hs : starEach [e] X.env = [(false, eval e X.env)] := by rfl) :
    PI X (.Tuple elts kk tpos) (.Call (.Name "enumerate" p) [e] [] pos) (iEnumT X.K ta) := by
  refine ⟨fun pins s σ H R I h => ?_⟩
  refine Call_ (ld_blt I hg hm boot_enumerate (PyProof.Rows.callWith_type1 (thn (ha.run pos pins s σ H _ I h) fun us s1 h1 => ?_) hs rfl))
  obtain ⟨vs, H1, I1, r1, a, xs, ex, hq, q⟩ := h1
  subst ex
  obtain ⟨u, eu, ru⟩ := vals1 r1
  subst eu
  obtain rfl : u = Value.ref a := ru
  obtain ⟨its, rv, p', hz⟩ := I1.tuple hq
  have la : a < s1.heap.objs.size := by obtain ⟨o, ho, _⟩ := p'; exact Heap.lt_size ho
  refine call_enumT p' fun h' he hit hk => wpAny_pyIter_enum he ?_
  have I2 : Inv X pins σ H1 { s1 with heap := h' } := I1.kept (t' := s1.toks) hk
  refine ⟨s1.heap.objs.size + 1, [s1.heap.objs.size + 1, s1.heap.objs.size], _, _, H1, rfl, I2, turn_enumT a (s1.heap.objs.size + 1) s1.heap.objs.size (Nat.ne_of_lt la) (Nat.ne_of_lt (Nat.lt_succ_of_lt la)), ⟨⟨.none, he⟩, hit, Nat.succ_ne_self _⟩, fun b hb => ?_, q⟩
  have hle : s1.heap.objs.size ≤ b := by
    have e' : b = s1.heap.objs.size + 1 ∨ b = s1.heap.objs.size := by simpa using hb
    rcases e' with z | z <;> rw [z]
    · exact Nat.le_add_right _ _
    · exact Nat.le_refl _
  exact I1.fpOk hle (I1.hok.fresh hle)
theorem walk_enumT {K : PySem.W.Frag} {a : Addr} {xs : List V} : Walk (ItE K a) xs.length (fun H => SqT K H a xs) (YPair (fun i => some (.int (i : Nat))) (fun i => xs[i]?)) := by
  refine ⟨fun i H hi q => ⟨xs, xs[i], q, List.getElem?_eq_getElem hi⟩, fun H q => ⟨xs, q, rfl⟩, fun i H x H' _ q y => ?_⟩
  obtain ⟨T, z, h1, h2, h3, h4⟩ := y
  exact ⟨T, _, z, h1, h2, h3, rfl, h4 xs q⟩
theorem walk_zipT {K : PySem.W.Frag} {a b : Addr} {xs ys : List V} {n : Nat} (hn : n = min xs.length ys.length) : Walk (RZ.ItzT K a b) n (fun H => SqT K H a xs ∧ SqT K H b ys) (YPair (fun i => xs[i]?) (fun i => ys[i]?)) := by
  refine ⟨fun i H hi q => ?_, fun H q => ?_, fun i H x H' hi q y => ?_⟩
  · exact ⟨xs, ys, xs[i]'(by omega), ys[i]'(by omega), q.1, q.2, List.getElem?_eq_getElem _, List.getElem?_eq_getElem _⟩
  · exact ⟨xs, ys, q.1, q.2, by omega⟩
  · obtain ⟨T, x1, y1, h1, h2, h3, h4, h5⟩ := y
    exact ⟨T, x1, y1, h1, h2, h3, h4 xs q.1, h5 ys q.2⟩
end G98
namespace G98
open PySem PySem.Spec PyProof.Rows L2
/-! the text by its places -/
def topS (i : Nat) : Stmt := PySem.Challenge.pw_shapeholes_k27_whole_small_changes.main.body.getD i (.Pass ⟨0, 0, 0, 0⟩)
/-- a def of the module that may be called by its name -/
structure Df (P : Program) (w : World) (K : PySem.W.Frag) (mg : Str → Option Value) (base : Heap) (k : Nat) (x : Str) (ps : List Str) (sp : Sp) : Prop where
  ex : ∃ (f : Addr) (fd : FuncData), FnOk P w K mg base CX0 k f fd ps sp ∧ mg x = some (.ref f) ∧ PySem.W.keepIn K (.ref f) = true ∧ Binds K fd ps []
theorem pe_f {X : Cx} {k j : Nat} {x : Str} {ps : List Str} {sp : Sp} {p pos : Pos} {e : Expr} {es : List Expr} {t : TA} (c : Df X.prog X.w X.K X.mg X.base k x ps sp) (hr : Room j X.A) (ha : PA X (e :: es) t) (hk : k ≤ j := by decide) (hg : Gl X x := by rfl)
    (hdb : (x == ("__debug__" : Str)) = false := by decide) (he : starEach (e :: es) X.env = (false, eval e X.env) :: starEach es X.env := by rfl) (hpl : (backTo pos (starEach es X.env)).any (·.1) = false := by rfl) :
    PE X (.Call (.Name x p) (e :: es) [] pos) (tCall sp [] E0 t) := by
  obtain ⟨f, fd, F, hm, kp, b⟩ := c.ex
  exact pe_call F (hr.mono hk) hg hm kp b .nil pass0 ha hdb he hpl
/-- what the names of built-ins and the constants of the modules hold -/
structure Txt (mg : Str → Option Value) : Prop where
  len : mg "len" = none
  range : mg "range" = none
  tuple : mg "tuple" = none
  list : mg "list" = none
  sorted : mg "sorted" = none
  max : mg "max" = none
  min : mg "min" = none
  abs : mg "abs" = none
  all : mg "all" = none
  sum : mg "sum" = none
  int : mg "int" = none
  bool : mg "bool" = none
  isinstance : mg "isinstance" = none
  zip : mg "zip" = none
  enumerate : mg "enumerate" = none
  mostV : ∃ t, mg "MOST_VERTEX" = some (.int 30 t)
  mostL : ∃ t, mg "MOST_LENGTH" = some (.int 8 t)
  mostF : ∃ t, mg "MOST_FACES" = some (.int 400 t)
  mostT : ∃ t, mg "MOST_TIME" = some (.int 1000 t)
  mostB : ∃ t, mg "MOST_BARS" = some (.int 12 t)
/-- a constant of a module -/
theorem pe_k {X : Cx} {x : Str} {i : Int} {pos : Pos} (h : ∃ t, X.mg x = some (.int i t)) (hg : Gl X x := by rfl) (hd : (x == ("__debug__" : Str)) = false := by decide) : PE X (.Name x pos) (tC (.int i)) := by
  obtain ⟨t, e⟩ := h
  exact pe_glob hg e ⟨t, rfl⟩ hd
/-- a built-in class as a value -/
theorem pe_ty {X : Cx} (x : String) {pos : Pos} (hm : X.mg (Str.ofString x) = none) (hv : bootBuiltins (Str.ofString x) = some (.type x)) (hg : Gl X (Str.ofString x) := by rfl) (hn : Str.ofString x ≠ "__name__" := by decide) (hd : (Str.ofString x == ("__debug__" : Str)) = false := by decide) : PE X (.Name (Str.ofString x) pos) (tC (.ty x)) := pe_bltn hg hm hv rfl hn hd
theorem small_line {n : Nat} (h : n ≤ 1000) : n ≤ sizeLine := Nat.le_of_lt (small1000 h)
theorem same_upd {H : Hp} {p : Addr} {o : HO} (h : H p = none) : Same H (upd H p o) := fun b x e => by
  rw [upd_ne (ne_of_none e h)]
  exact e
theorem Same.tupT {K : PySem.W.Frag} {H H' : Hp} {a : Addr} {xs : List V} (e : Same H H') (h : SqT K H a xs) : SqT K H' a xs := by
  rcases h with (h | ⟨o, h⟩) | h
  · exact .inl (.inl (e _ _ h))
  · exact .inl (.inr ⟨o, e _ _ h⟩)
  · exact .inr h
section
variable {P : Program} {w : World} {K : PySem.W.Frag} {mg : Str → Option Value} {base : Heap}
theorem df_mk {x : Str} {st : Stmt} {f : Addr} {fd : FuncData} {ps : List Str} {k : Nat} {sp : Sp} (F : Fun K x x st f fd) (hm : mg x = some (.ref f)) (b : Binds K fd ps []) (ok : FnOk P w K mg base CX0 k f fd ps sp) : Df P w K mg base k x ps sp := ⟨f, fd, ok, hm, F.kp, b⟩
/-! ### checks -/
abbrev sIsInteger : Stmt := topS 1
abbrev sIsIn : Stmt := topS 2
abbrev sIsList : Stmt := topS 3
def spIsInteger : Sp := fun vs H Q _ => ∃ i : Int, vs = [.int i] ∧ Q (.bl true) H
theorem scIsInteger : FnScope ["value"] ["value"] (defScope sIsInteger) := ⟨rfl, rfl, rfl, by decide +kernel, rfl, by decide +kernel, by decide +kernel⟩
theorem ok_is_integer {f : Addr} {fd : FuncData} (T : Txt mg) (F : Fun K "is_integer" "is_integer" sIsInteger f fd) : FnOk P w K mg base CX0 1 f fd ["value"] spIsInteger := by
  refine F.ok scIsInteger (fun vs H Q E h => ?_) (fun cdv A outer s H vs Q E hr h => ?_)
  · obtain ⟨i, rfl, _⟩ := h
    rfl
  obtain ⟨i, rfl, q⟩ := h
  refine ⟨_, pss_one (ps_ret (pe_and (pe_callB RZ.call_isTy (by rfl) T.isinstance (by decide +kernel) (pa_cons (pv 0) (pa_cons (pe_ty "int" T.int (by decide +kernel)) pa_nil)))
    (pe_one (pe_not (pe_callB call_isi (by rfl) T.isinstance (by decide +kernel) (pa_cons (pv 0) (pa_cons (pe_ty "bool" T.bool (by decide +kernel)) pa_nil))))))), ?_⟩
  refine ⟨_, rfl, .int i, "int", rfl, .int i, true, rfl, iteT ⟨_, rfl, .int i, .ty "bool", .type "int", .type "bool", false, rfl, ?_, .base (.int i), ?_, false, rfl, ?_⟩⟩
  · exact .ty "bool"
  · exact kit_ty (by decide +kernel)
  · exact q
end
end G98
namespace G98
open PySem PySem.Spec PyProof.Rows L2
section
variable {P : Program} {w : World} {K : PySem.W.Frag} {mg : Str → Option Value} {base : Heap}
/-! ### checks: a range, a tuple -/
def inB (i lo hi : Int) : Bool := decide (lo ≤ i) && decide (i ≤ hi)
def spIsIn : Sp := fun vs H Q _ => ∃ i lo hi : Int, vs = [.int i, .int lo, .int hi] ∧ Q (.bl (inB i lo hi)) H
theorem scIsIn : FnScope ["value", "least", "most"] ["value", "least", "most"] (defScope sIsIn) := ⟨rfl, rfl, rfl, by decide +kernel, rfl, by decide +kernel, by decide +kernel⟩
theorem inB_t {i lo hi : Int} (h : decide (lo ≤ i) = true) : inB i lo hi = decide (i ≤ hi) := by
  unfold inB
  rw [h]
  rfl
theorem inB_f {i lo hi : Int} (h : ¬ decide (lo ≤ i) = true) : inB i lo hi = false := by
  unfold inB
  rw [Bool.eq_false_iff.mpr h]
  rfl
theorem ok_is_in {f : Addr} {fd : FuncData} (D : Df P w K mg base 1 "is_integer" ["value"] spIsInteger) (F : Fun K "is_in" "is_in" sIsIn f fd) : FnOk P w K mg base CX0 2 f fd ["value", "least", "most"] spIsIn := by
  refine F.ok scIsIn (fun vs H Q E h => ?_) (fun cdv A outer s H vs Q E hr h => ?_)
  · obtain ⟨i, lo, hi, rfl, _⟩ := h
    rfl
  obtain ⟨i, lo, hi, rfl, q⟩ := h
  refine ⟨_, pss_one (ps_ret (pe_and (pe_f D hr (pa_cons (pv 0) pa_nil)) (pe_one (pe_chain op_le op_le (pv 1) (pv 0) (pv 2))))), ?_⟩
  refine ⟨_, rfl, i, rfl, true, rfl, iteT ⟨_, rfl, _, rfl, ?_⟩⟩
  refine ⟨_, _, rfl, rfl, _, rfl, ite2 (fun e => ⟨_, rfl, _, _, rfl, rfl, ?_⟩) (fun e => ?_)⟩
  · rw [inB_t e] at q
    exact q
  · rw [inB_f e] at q
    exact q
def spIsList : Sp := fun vs H Q _ => ∃ (t : Addr) (xs : List V) (lo hi : Int), vs = [.ref t, .int lo, .int hi] ∧ H t = some (.tup xs) ∧ Q (.bl (inB xs.length lo hi)) H
theorem scIsList : FnScope ["value", "least", "most"] ["value", "least", "most"] (defScope sIsList) := ⟨rfl, rfl, rfl, by decide +kernel, rfl, by decide +kernel, by decide +kernel⟩
theorem ok_is_list {f : Addr} {fd : FuncData} (T : Txt mg) (F : Fun K "is_list" "is_list" sIsList f fd) : FnOk P w K mg base CX0 1 f fd ["value", "least", "most"] spIsList := by
  refine F.ok scIsList (fun vs H Q E h => ?_) (fun cdv A outer s H vs Q E hr h => ?_)
  · obtain ⟨t, xs, lo, hi, rfl, _⟩ := h
    rfl
  obtain ⟨t, xs, lo, hi, rfl, ht, q⟩ := h
  refine ⟨_, pss_one (ps_ret (pe_and (pe_callB RZ.call_isTy (by rfl) T.isinstance (by decide +kernel) (pa_cons (pv 0) (pa_cons (pe_ty "tuple" T.tuple (by decide +kernel)) pa_nil)))
    (pe_one (pe_chain op_le op_le (pv 1) (pe_callB call_len_seq (by rfl) T.len PySem.boot_len (pa_cons (pv 0) pa_nil)) (pv 2))))), ?_⟩
  refine ⟨_, rfl, .ref t, "tuple", rfl, .tup ht, true, rfl, iteT ⟨_, rfl, _, rfl, t, xs, rfl, .inr (SqT.of ht), ?_⟩⟩
  refine ⟨_, _, rfl, rfl, _, rfl, ite2 (fun e => ⟨_, rfl, _, _, rfl, rfl, ?_⟩) (fun e => ?_)⟩
  · rw [inB_t e] at q
    exact q
  · rw [inB_f e] at q
    exact q
end
end G98
namespace G98
open PySem PySem.Spec PyProof.Rows L2
/-! ### tuples stay -/
def Tk (H H' : Hp) : Prop := ∀ b xs, H b = some (.tup xs) → H' b = some (.tup xs)
theorem Tk.refl (H : Hp) : Tk H H := fun _ _ h => h
theorem Tk.trans {A B C : Hp} (a : Tk A B) (b : Tk B C) : Tk A C := fun c x h => b c x (a c x h)
theorem same_tk {H H' : Hp} (s : Same H H') : Tk H H' := fun b xs h => s b _ h
theorem tk_upd {H : Hp} {p : Addr} {o u : HO} (h : H p = some u) (hu : ∀ xs, u ≠ .tup xs) : Tk H (upd H p o) := fun b xs e => by
  have hne : b ≠ p := fun z => by
    subst z
    rw [h] at e
    exact hu xs (Option.some.inj e)
  rw [upd_ne hne]
  exact e
theorem tk_lst {H : Hp} {p : Addr} {o : HO} {l : List V} (h : H p = some (.lst l)) : Tk H (upd H p o) := tk_upd h fun xs z => by cases z
theorem tk_new {H : Hp} {p : Addr} {o : HO} (h : H p = none) : Tk H (upd H p o) := same_tk (same_upd h)
/-- a list comprehension without tests whose items are told by F, which hangs on tuples alone -/
theorem lc_map {J : It} {n : Nat} {G : Hp → Prop} {Y : Nat → Hp → V → Hp → Prop} (w : Walk J n G Y) {g : TG} {te : TE} {vs : List Nat} {σ : Sl} {H1 : Hp} {D : Addr} {Qd : Hp → Prop} (F : Nat → V → Hp → Prop)
    (hF : ∀ i y H H', Tk H H' → F i y H → F i y H') (hG : ∀ H, Same H1 H → G H) (hn : n < sizeLine) (hD : H1 D = none)
    (hs : ∀ (i : Nat) (x : V) (H H2 : Hp) (R : VK), i < n → Same H1 H → (∃ l, H D = some (.lst l)) → Y i H x H2 → (∀ y H3, Same H H3 → F i y H3 → R y H3) → g x (wipe σ vs) H2 fun σ2 H3 => wipe σ2 vs = wipe σ vs ∧ te σ2 H3 R)
    (hd : ∀ (H' : Hp) (ys : List V), Same H1 H' → H' D = some (.lst ys) → ys.length = n → (∀ j y, ys[j]? = some y → F j y H') → Qd H') :
    ∃ W : Nat → Nat → Hp → Prop, (∃ m, W 0 m (upd H1 D (.lst []))) ∧ ∀ i m H, W i m H →
      (J.stop i H ∧ Qd H) ∨ (J.go i H ∧ ∃ Nx : Hp → Prop, (∀ H', Nx H' → ∃ m', m' < m ∧ W (i + 1) m' H') ∧ ∀ x H', J.yld i H x H' → g x (wipe σ vs) H' fun σ2 H2 => wipe σ2 vs = wipe σ vs ∧ tYes σ2 H2 fun b H3 =>
        if b = true then te σ2 H3 fun y H4 => ∃ acc, H4 D = some (.lst acc) ∧ acc.length < sizeLine ∧ Nx (upd H4 D (.lst (acc ++ [y]))) else Nx H3) := by
  refine lc_it w (tt := tYes) (fun i H => Same H1 H ∧ ∃ ys : List V, H D = some (.lst ys) ∧ ys.length = i ∧ ∀ j y, ys[j]? = some y → F j y H) ⟨same_upd hD, [], upd_same, rfl, fun j y h => by simp at h⟩ (fun i H _ p => hG H p.1) (fun i x H H' hi p y => ?_) fun H p => ?_
  · obtain ⟨sm, ys, eD, hl, hy⟩ := p
    refine hs i x H H' (fun y H4 => ∃ acc, H4 D = some (.lst acc) ∧ acc.length < sizeLine ∧ (Same H1 (upd H4 D (.lst (acc ++ [y]))) ∧ ∃ ys : List V, (upd H4 D (.lst (acc ++ [y]))) D = some (.lst ys) ∧ ys.length = i + 1 ∧ ∀ j z, ys[j]? = some z → F j z (upd H4 D (.lst (acc ++ [y]))))) hi sm ⟨ys, eD⟩ y fun z H3 s3 f3 => ?_
    have e3 : H3 D = some (.lst ys) := s3 D _ eD
    refine ⟨ys, e3, by omega, fun b o e => ?_, ys ++ [z], upd_same, by simp [hl], fun j u h => ?_⟩
    · rw [upd_ne (ne_of_none e hD)]
      exact s3 b o (sm b o e)
    · refine hF j u H3 _ (tk_lst e3) ?_
      by_cases hj : j < i
      · rw [List.getElem?_append_left (by omega)] at h
        exact hF j u H H3 (same_tk s3) (hy j u h)
      · rw [List.getElem?_append_right (by omega)] at h
        have hj2 : j = i := by
          have := (List.getElem?_eq_some_iff.mp h).1
          simp at this
          omega
        subst hj2
        rw [hl, Nat.sub_self] at h
        have e : z = u := by simpa using h
        subst e
        exact f3
  · obtain ⟨sm, ys, eD, hl, hy⟩ := p
    exact hd H ys sm eD hl hy
section
variable {P : Program} {w : World} {K : PySem.W.Frag} {mg : Str → Option Value} {base : Heap}
/-! ### simplices -/
def iv (s : List Nat) : List V := s.map fun n : Nat => V.int (n : Int)
theorem iv_at {s : List Nat} {i : Nat} {x : V} (h : (iv s)[i]? = some x) : ∃ n : Nat, s[i]? = some n ∧ x = .int (n : Int) := by
  unfold iv at h
  rw [List.getElem?_map] at h
  obtain ⟨n, hn, e⟩ := Option.map_eq_some_iff.mp h
  exact ⟨n, hn, e.symm⟩
theorem iv_len (s : List Nat) : (iv s).length = s.length := List.length_map _
theorem all_true {ys : List V} (hy : ∀ (j : Nat) (y : V), ys[j]? = some y → y = V.bl true) : ys = (List.replicate ys.length true).map V.bl := by
  refine List.ext_getElem? fun j => ?_
  cases e : ys[j]? with
  | none =>
    have := List.getElem?_eq_none_iff.mp e
    rw [List.getElem?_eq_none]
    simp
    exact this
  | some y =>
    have lt := (List.getElem?_eq_some_iff.mp e).1
    rw [hy j y e]
    simp [lt]
theorem cut_from (k : Nat) (xs : List V) (hk : k ≤ xs.length) : cutV xs (some (k : Int)) none = xs.drop k := by
  unfold cutV
  rw [HT.sIx_nat, HT.sIx_none, Nat.min_eq_left hk]
  exact List.take_of_length_le (by rw [List.length_drop]; exact Nat.le_refl _)
/-- ascending vertices, at most eight -/
structure Asc (s : List Nat) : Prop where
  up : s.Pairwise (· < ·)
  lt : ∀ n ∈ s, n ≤ 30
  ne : s ≠ []
  le : s.length ≤ 8
abbrev sIsAsc : Stmt := topS 17
def spIsAsc : Sp := fun vs H Q _ => ∃ (t : Addr) (s : List Nat), vs = [.ref t, .int 1, .int 8] ∧ H t = some (.tup (iv s)) ∧ Asc s ∧ ∀ H', Same H H' → Q (.bl true) H'
theorem scIsAsc : FnScope ["value", "least", "most", "vertex", "one", "other"] ["value", "least", "most"] (defScope sIsAsc) := ⟨rfl, rfl, rfl, by decide +kernel, rfl, by decide +kernel, by decide +kernel⟩
theorem ok_is_asc {f : Addr} {fd : FuncData} (T : Txt mg) (DL : Df P w K mg base 1 "is_list" ["value", "least", "most"] spIsList) (DI : Df P w K mg base 2 "is_in" ["value", "least", "most"] spIsIn) (F : Fun K "is_ascending" "is_ascending" sIsAsc f fd) :
    FnOk P w K mg base CX0 3 f fd ["value", "least", "most"] spIsAsc := by
  refine F.ok scIsAsc (fun vs H Q E h => ?_) (fun cdv A outer s H vs Q E hr h => ?_)
  · obtain ⟨t, s, rfl, _⟩ := h
    rfl
  obtain ⟨t, s, rfl, ht, hs, q⟩ := h
  refine ⟨_, pss_cons (ps_if (PW.pt (pw_or (pt_not (pt_val (pe_f DL hr (pa_cons (pv 0) (pa_cons (pv 1) (pa_cons (pv 2) pa_nil))))))
      (pw_or1 (pt_not (pt_val (pe_callB (cr_all rfl) (by rfl) T.all (by decide +kernel) (pa_cons
        (pe_lc (own := [("vertex", 3)]) (g := gName 3) (tt := tYes) rfl scIsAsc.nd (pi_tup (pv 0)) (blkOk_by (N := ["value", "least", "most", "vertex", "one", "other"]) (sc := defScope sIsAsc) (by decide +kernel)) (fun _ _ _ _ _ => pg_name (i := 3) scIsAsc.nd rfl (Or.inl rfl)) (fun _ _ _ _ _ => pts_nil)
          (fun _ _ _ _ _ => pe_f DI hr (pa_cons (pv 3) (pa_cons pe_int (pa_cons (pe_k T.mostV) pa_nil))))) pa_nil)))))))
      (pss_one ps_never) pss_nil)
    (pss_one (ps_ret (pe_callB (cr_all rfl) (by rfl) T.all (by decide +kernel) (pa_cons
      (pe_lc (own := [("one", 4), ("other", 5)]) (g := gTup K 2 (gCons (gName 4) (gCons (gName 5) gNil))) (tt := tYes) rfl scIsAsc.nd (RZ.pi_zipA (by rfl) T.zip (pa_cons (pv 0) (pa_cons (pe_slice sl_tupA (pv 0) (po_some pe_int) po_none) pa_nil))) (blkOk_by (N := ["value", "least", "most", "vertex", "one", "other"]) (sc := defScope sIsAsc) (by decide +kernel))
        (fun _ _ _ _ _ => pg_tup rfl (pgs_cons (pg_name (i := 4) scIsAsc.nd rfl (Or.inl rfl)) (pgs_cons (pg_name (i := 5) scIsAsc.nd rfl (Or.inl rfl)) pgs_nil))) (fun _ _ _ _ _ => pts_nil)
        (fun _ _ _ _ _ => pe_cmpR op_lt (pv 4) (pv 5) (nomark _))) pa_nil)))), ?_⟩
  have hpos : 1 ≤ s.length := List.length_pos_iff.mpr hs.ne
  have h8 := hs.le
  -- is_list(value, least, most)
  refine ⟨_, rfl, _, rfl, _, rfl, t, iv s, 1, 8, rfl, ht, true, ?_, ?_⟩
  · rw [iv_len]
    unfold inB
    rw [decide_eq_true (by omega), decide_eq_true (by omega)]
    rfl
  refine iteF ?_
  -- all(is_in(vertex, 0, 30) ..)
  refine ⟨_, rfl, t, rfl, ⟨_, SqT.of ht⟩, fun D hD => lc_map (walk_tup (xs := iv s)) (fun i y H => y = .bl true) (fun i y H H' _ h => h) (fun H' sm => SqT.of (sm _ _ ht)) (by rw [iv_len]; exact small1000 (by omega)) hD (fun i x H1 H2 R hi sm _ hy r => ?_) fun H1 ys sm eD hl hy => ?_⟩
  · obtain ⟨e, hx⟩ := hy
    subst e
    obtain ⟨n, hn, ex⟩ := iv_at hx
    subst ex
    refine ⟨rfl, _, rfl, n, 0, 30, rfl, r _ _ (Same.refl _) ?_⟩
    have := hs.lt n (List.mem_of_getElem? hn)
    unfold inB
    rw [decide_eq_true (by omega), decide_eq_true (by omega)]
    rfl
  have eys : ys = (List.replicate ys.length true).map V.bl := all_true hy
  refine ⟨D, List.replicate ys.length true, rfl, SqL.of (by rw [eD]; exact congrArg _ (congrArg _ eys)), true, ?_, iteF ?_⟩
  · simp
  -- all(one < other ..)
  have ht1 := sm _ _ ht
  refine ⟨_, rfl, .ref t, rfl, 1, rfl, t, iv s, rfl, SqT.of ht1, fun z => ?_, fun _ p np => ?_⟩
  · exfalso
    have := z.1
    rw [show HT.sIx (iv s).length 0 (some 1) = min 1 (iv s).length from HT.sIx_nat _ 0 1, iv_len] at this
    omega
  have s2 : Same H1 (upd H1 p (.tup (cutV (iv s) (some 1) none))) := same_upd np
  have ec : cutV (iv s) (some 1) none = (iv s).drop 1 := cut_from 1 _ (by rw [iv_len]; omega)
  refine ⟨t, p, iv s, (iv s).drop 1, rfl, .inr ⟨SqT.of (s2 _ _ ht1), SqT.of (by rw [upd_same, ec]), fun D2 hD2 => lc_map (walk_zipT (n := s.length - 1) (xs := iv s) (ys := (iv s).drop 1) (by rw [List.length_drop, iv_len]; omega)) (fun i y H => y = .bl true) (fun i y H H' _ h => h)
    (fun H' sm => ⟨SqT.of (sm _ _ (s2 _ _ ht1)), SqT.of (sm _ _ (by rw [upd_same, ec]))⟩) (small1000 (by omega)) hD2 (fun i x H2 H3 R hi sm2 _ hy r => ?_) fun H2 ys2 sm2 eD2 hl2 hy2 => ?_⟩⟩
  · obtain ⟨U, x1, x2, ex, nU, eH, h1, h2⟩ := hy
    subst ex
    subst eH
    obtain ⟨n1, hn1, e1⟩ := iv_at h1
    have h2 : ((iv s).drop 1)[i]? = some x2 := h2
    rw [List.getElem?_drop] at h2
    obtain ⟨n2, hn2, e2⟩ := iv_at h2
    subst e1
    subst e2
    refine ⟨U, _, rfl, SqT.of upd_same, rfl, _, _, rfl, _, _, rfl, rfl, rfl, _, rfl, _, rfl, _, _, rfl, rfl, r _ _ (same_upd nU) ?_⟩
    have hlt : n1 < n2 := by
      have g1 := List.getElem?_eq_some_iff.mp hn1
      have g2 := List.getElem?_eq_some_iff.mp hn2
      obtain ⟨l1, g1⟩ := g1
      obtain ⟨l2, g2⟩ := g2
      have := List.pairwise_iff_getElem.mp hs.up i (1 + i) l1 l2 (by omega)
      rw [g1, g2] at this
      exact this
    exact congrArg V.bl (decide_eq_true (show (n1 : Int) < (n2 : Int) by omega))
  · have eys2 : ys2 = (List.replicate ys2.length true).map V.bl := all_true hy2
    refine ⟨D2, List.replicate ys2.length true, rfl, SqL.of (by rw [eD2]; exact congrArg _ (congrArg _ eys2)), ?_⟩
    have e : (List.replicate ys2.length true).all id = true := by simp
    rw [e]
    exact q H2 (sm.trans (s2.trans sm2))
end
end G98
namespace G98
open PySem PySem.Spec PyProof.Rows L2
/-! ### rows of simplices -/
def IsS (H : Hp) (y : V) (s : List Nat) : Prop := ∃ q, y = .ref q ∧ H q = some (.tup (iv s))
theorem IsS.tk {H H' : Hp} {y : V} {s : List Nat} (k : Tk H H') (h : IsS H y s) : IsS H' y s := let ⟨q, e, h⟩ := h; ⟨q, e, k q _ h⟩
structure LV (H : Hp) (ys : List V) (ss : List (List Nat)) : Prop where
  len : ys.length = ss.length
  at' : ∀ (j : Nat) (y : V), ys[j]? = some y → ∃ s, ss[j]? = some s ∧ IsS H y s
theorem LV.tk {H H' : Hp} {ys : List V} {ss : List (List Nat)} (k : Tk H H') (h : LV H ys ss) : LV H' ys ss := ⟨h.len, fun j y e => let ⟨s, e2, i⟩ := h.at' j y e; ⟨s, e2, i.tk k⟩⟩
theorem LV.nil {H : Hp} : LV H [] [] := ⟨rfl, fun j y e => by simp at e⟩
theorem LV.app {H : Hp} {ys zs : List V} {ss ts : List (List Nat)} (h : LV H ys ss) (h2 : LV H zs ts) : LV H (ys ++ zs) (ss ++ ts) := by
  have l1 := h.len
  refine ⟨by simp [h.len, h2.len], fun j y e => ?_⟩
  by_cases hj : j < ys.length
  · rw [List.getElem?_append_left hj] at e
    rw [List.getElem?_append_left (by omega)]
    exact h.at' j y e
  · rw [List.getElem?_append_right (by omega)] at e
    rw [List.getElem?_append_right (by omega)]
    obtain ⟨s, e2, i⟩ := h2.at' _ y e
    exact ⟨s, by rw [← l1]; exact e2, i⟩
theorem LV.drop {H : Hp} {ys : List V} {ss : List (List Nat)} (k : Nat) (h : LV H ys ss) : LV H (ys.drop k) (ss.drop k) := by
  refine ⟨by rw [List.length_drop, List.length_drop, h.len], fun j y e => ?_⟩
  rw [List.getElem?_drop] at e ⊢
  exact h.at' _ y e
theorem LV.one {H : Hp} {y : V} {s : List Nat} (h : IsS H y s) : LV H [y] [s] := ⟨rfl, fun j z e => by
  cases j with
  | zero =>
    have e : y = z := by simpa using e
    subst e
    exact ⟨s, rfl, h⟩
  | succ j => simp at e⟩
theorem LV.of {H : Hp} {ys : List V} {ss : List (List Nat)} {n : Nat} (hl : ys.length = n) (hs : ss.length = n) (h : ∀ (j : Nat) (y : V), ys[j]? = some y → ∃ s, ss[j]? = some s ∧ IsS H y s) : LV H ys ss := ⟨by rw [hl, hs], h⟩
theorem LV.get {H : Hp} {ys : List V} {ss : List (List Nat)} (h : LV H ys ss) {j : Nat} {s : List Nat} (e : ss[j]? = some s) : ∃ y, ys[j]? = some y ∧ IsS H y s := by
  have hj := (List.getElem?_eq_some_iff.mp e).1
  have l := h.len
  have e2 : ys[j]? = some (ys[j]'(by omega)) := List.getElem?_eq_getElem _
  obtain ⟨s', e3, i⟩ := h.at' j _ e2
  rw [e] at e3
  cases e3
  exact ⟨_, e2, i⟩
/-- a list of simplices, a tuple of simplices -/
def LS (H : Hp) (a : Addr) (ss : List (List Nat)) : Prop := ∃ ys, H a = some (.lst ys) ∧ LV H ys ss
def TS (H : Hp) (a : Addr) (ss : List (List Nat)) : Prop := ∃ ys, H a = some (.tup ys) ∧ LV H ys ss
theorem LS.same {H H' : Hp} {a : Addr} {ss : List (List Nat)} (k : Same H H') (h : LS H a ss) : LS H' a ss := let ⟨ys, e, l⟩ := h; ⟨ys, k _ _ e, l.tk (same_tk k)⟩
theorem TS.tk {H H' : Hp} {a : Addr} {ss : List (List Nat)} (k : Tk H H') (h : TS H a ss) : TS H' a ss := let ⟨ys, e, l⟩ := h; ⟨ys, k _ _ e, l.tk k⟩
def sub1 (acc : List (List Nat)) (v : Nat) : List (List Nat) := acc ++ acc.map (· ++ [v])
/-- all parts of a row, the empty one first -/
def subs (s : List Nat) : List (List Nat) := s.foldl sub1 [[]]
theorem subs_snoc (s : List Nat) (v : Nat) : subs (s ++ [v]) = sub1 (subs s) v := by unfold subs; rw [List.foldl_append]; rfl
theorem sub1_len (acc : List (List Nat)) (v : Nat) : (sub1 acc v).length = 2 * acc.length := by unfold sub1; rw [List.length_append, List.length_map]; omega
theorem subs_len_aux : ∀ (s : List Nat) (acc : List (List Nat)), (s.foldl sub1 acc).length = 2 ^ s.length * acc.length
  | [], acc => by simp
  | v :: s, acc => by
    rw [List.foldl_cons, subs_len_aux s, sub1_len, List.length_cons, Nat.pow_succ, Nat.mul_assoc]
theorem subs_len (s : List Nat) : (subs s).length = 2 ^ s.length := by unfold subs; rw [subs_len_aux]; simp
theorem subs_mem : ∀ (s : List Nat) (acc : List (List Nat)) {p : List Nat}, p ∈ s.foldl sub1 acc ↔ ∃ a b, a ∈ acc ∧ b.Sublist s ∧ p = a ++ b
  | [], acc, p => by
    constructor
    · intro h; exact ⟨p, [], h, .slnil, by simp⟩
    · rintro ⟨a, b, ha, hb, rfl⟩
      rw [List.sublist_nil.mp hb, List.append_nil]
      exact ha
  | v :: s, acc, p => by
    rw [List.foldl_cons, subs_mem s]
    constructor
    · rintro ⟨a, b, ha, hb, rfl⟩
      rcases List.mem_append.mp ha with ha | ha
      · exact ⟨a, b, ha, hb.cons v, rfl⟩
      · obtain ⟨a', ha', rfl⟩ := List.mem_map.mp ha
        exact ⟨a', v :: b, ha', hb.cons_cons v, by simp⟩
    · rintro ⟨a, b, ha, hb, rfl⟩
      cases hb with
      | cons _ h => exact ⟨a, b, List.mem_append_left _ ha, h, rfl⟩
      | @cons_cons b' _ _ h => exact ⟨a ++ [v], b', List.mem_append_right _ (List.mem_map.mpr ⟨a, ha, rfl⟩), h, by simp⟩
theorem mem_subs {s p : List Nat} : p ∈ subs s ↔ p.Sublist s := by
  unfold subs
  rw [subs_mem]
  constructor
  · rintro ⟨a, b, ha, hb, rfl⟩
    have : a = [] := by simpa using ha
    subst this
    exact hb
  · intro h
    exact ⟨[], p, List.mem_singleton.mpr rfl, h, rfl⟩
section
variable {P : Program} {w : World} {K : PySem.W.Frag} {mg : Str → Option Value} {base : Heap}
abbrev sParts : Stmt := topS 19
abbrev nParts : List Str := ["simplex", "found", "vertex", "part"]
def spParts : Sp := fun vs H Q _ => ∃ (t : Addr) (s : List Nat), vs = [.ref t] ∧ H t = some (.tup (iv s)) ∧ s.length ≤ 8 ∧ ∀ H' p, Same H H' → H p = none → LS H' p ((subs s).drop 1) → Q (.ref p) H'
theorem scParts : FnScope nParts ["simplex"] (defScope sParts) := ⟨rfl, rfl, rfl, by decide +kernel, rfl, by decide +kernel, by decide +kernel⟩
theorem ok_parts {f : Addr} {fd : FuncData} (F : Fun K "parts_of" "parts_of" sParts f fd) : FnOk P w K mg base CX0 1 f fd ["simplex"] spParts := by
  refine F.ok scParts (fun vs H Q E h => ?_) (fun cdv A outer s0 H vs Q E hr h => ?_)
  · obtain ⟨t, s, rfl, _⟩ := h
    rfl
  obtain ⟨t, s, rfl, ht, h8, q⟩ := h
  refine ⟨_, pss_cons (ps_set (i := 1) scParts.nd rfl (.inl rfl) (pe_lst (pa_cons (pe_tup pa_nil) pa_nil)))
    (pss_cons (ps_for PassesOwn.never rfl (pi_tup (pv 0)) (pg_name (i := 2) scParts.nd rfl (.inr rfl)) (pss_one (ps_expr (pe_bm PySem.F.plainAttrs_list PySem.F.slot_list_extend PySem.F.type_list_extend mt_extend (pv 1) (pa_cons
      (pe_lc (own := [("part", 3)]) (g := gName 3) (tt := tYes) (te := tTup (StX.tStar K (tVar 3) (tCons (tVar 2) tNil))) rfl scParts.nd (pi_list (pv 1)) (blkOk_by (N := nParts) (sc := defScope sParts) (by decide +kernel)) (fun _ _ _ _ _ => pg_name (i := 3) scParts.nd rfl (.inl rfl)) (fun _ _ _ _ _ => pts_nil)
        (fun _ _ _ _ _ => pe_tup (StX.pa_star (pv 3) (pa_cons (pv 2) pa_nil)))) pa_nil)))))
    (pss_one (ps_ret (pe_slice sl_list (pv 1) (po_some pe_int) po_none)))), ?_⟩
  -- found = [()]
  refine ⟨Nat.zero_le _, fun e ne => ⟨by show 1 ≤ sizeLine; decide, fun a na => ?_⟩⟩
  have nae : a ≠ e := fun z => by
    rw [z, upd_same] at na
    cases na
  have hna : H a = none := by
    rw [upd_ne nae] at na
    exact na
  have sm0 : Same H (upd (upd H e (.tup [])) a (.lst [.ref e])) := (same_upd ne).trans (same_upd na)
  have st0 : LS (upd (upd H e (.tup [])) a (.lst [.ref e])) a (subs (s.take 0)) := by
    refine ⟨[.ref e], upd_same, LV.one ⟨e, rfl, ?_⟩⟩
    rw [upd_ne nae.symm, upd_same]
    rfl
  -- the loop
  refine ⟨_, rfl, t, rfl, ⟨_, SqT.of (sm0 _ _ ht)⟩, for_tup (xs := iv s) (fun i σ H' => ∃ y2, σ = [some (.ref t), some (.ref a), y2, none] ∧ Same H H' ∧ LS H' a (subs (s.take i))) ⟨none, rfl, sm0, st0⟩ (fun i σ H' _ p => SqT.of (p.choose_spec.2.1 _ _ ht)) (fun i x σ H' hx p => ?_) fun σ H' p => ?_⟩
  · obtain ⟨y2, rfl, sm, ys, ea, lv⟩ := p
    obtain ⟨n, hn, rfl⟩ := iv_at hx
    have hi : i < s.length := (List.getElem?_eq_some_iff.mp hn).1
    have hl : (subs (s.take i)).length ≤ 256 := by
      rw [subs_len, List.length_take]
      exact Nat.pow_le_pow_right (by decide) (by omega : min i s.length ≤ 8)
    have lvl := lv.len
    refine ⟨_, rfl, .inl ⟨rfl, _, SqL.of ea⟩, _, rfl, a, rfl, ⟨_, SqL.of ea⟩, fun D hD => lc_map (walk_list (xs := ys)) (fun j y H => ∃ s', (subs (s.take i))[j]? = some s' ∧ IsS H y (s' ++ [n]))
      (fun j y H1 H2 k h => let ⟨s', e, h⟩ := h; ⟨s', e, h.tk k⟩) (fun H1 sm1 => SqL.of (sm1 _ _ ea)) (small1000 (by omega)) hD (fun j x H1 H2 R hj sm1 _ hy r => ?_) fun H1 zs sm1 eD hzl hz => ?_⟩
    · obtain ⟨rfl, hx1⟩ := hy
      obtain ⟨s', es, q', rfl, hq'⟩ := lv.at' j x hx1
      have hs8 : s'.length + 1 ≤ 1000 := by
        have := (mem_subs.mp (List.mem_of_getElem? es)).length_le
        rw [List.length_take] at this
        omega
      refine ⟨rfl, _, rfl, q', iv s', rfl, .inl (SqT.of (sm1 _ _ hq')), _, rfl, ?_, fun p np => r _ _ (same_upd np) ⟨s', es, p, rfl, ?_⟩⟩
      · rw [List.length_append, iv_len]
        exact small_line (by simpa using hs8)
      · rw [upd_same]
        unfold iv
        rw [List.map_append]
        rfl
    · have ea1 := sm1 _ _ ea
      have lz : LV H1 zs ((subs (s.take i)).map (· ++ [n])) := by
        refine LV.of hzl (by rw [List.length_map]; omega) fun j y e => ?_
        obtain ⟨s', es, is⟩ := hz j y e
        exact ⟨s' ++ [n], by rw [List.getElem?_map, es]; rfl, is⟩
      have nD : D ≠ a := fun z => by
        rw [z, ea] at hD
        cases hD
      refine ⟨a, D, ys, zs, rfl, rfl, ea1, eD, small_line (by omega), _, rfl, fun b o e => ?_, ys ++ zs, upd_same, ?_⟩
      · have hb : b ≠ a := ne_of_none e hna
        rw [upd_ne hb]
        exact sm1 _ _ (sm _ _ e)
      · have e1 : subs (s.take (i + 1)) = subs (s.take i) ++ (subs (s.take i)).map (· ++ [n]) := by
          rw [List.take_add_one, hn]
          exact subs_snoc _ _
        rw [e1]
        exact ((lv.tk (same_tk sm1)).app lz).tk (tk_lst ea1)
  · obtain ⟨y2, rfl, sm, ys, ea, lv⟩ := p
    rw [iv_len, List.take_length] at lv
    refine ⟨_, rfl, 1, rfl, a, ys, rfl, SqL.of ea, fun p np => ?_⟩
    have hl := lv.len
    rw [subs_len] at hl
    have h1 : 1 ≤ ys.length := by rw [hl]; exact Nat.one_le_two_pow
    have ec : cutV ys (some 1) none = ys.drop 1 := cut_from 1 _ h1
    refine q _ p (sm.trans (same_upd np)) (sm.free np) ⟨ys.drop 1, by rw [upd_same, ec], ((lv.drop 1).tk (tk_new np))⟩
end
end G98
namespace G98
open PySem PySem.Spec PyProof.Rows L2
/-! ### dicts with simplices as keys -/
def kk (s : List Nat) : List Key := s.map fun n : Nat => (Sum.inl (n : Int) : Key)
theorem kk_kV (s : List Nat) : (kk s).map kV = iv s := by
  unfold kk iv
  rw [List.map_map]
  rfl
theorem kk_inj : ∀ {s t : List Nat}, kk s = kk t → s = t
  | [], [], _ => rfl
  | [], _ :: _, h => by cases h
  | _ :: _, [], h => by cases h
  | a :: s, b :: t, h => by
    have h : (Sum.inl (a : Int) : Key) :: kk s = (Sum.inl (b : Int) : Key) :: kk t := h
    obtain ⟨h1, h2⟩ := List.cons.inj h
    have h1 : (a : Int) = (b : Int) := Sum.inl.inj h1
    rw [kk_inj h2]
    have : a = b := by omega
    rw [this]
def encW (L : List (List Nat × V)) : List (List Key × V) := L.map fun p => (kk p.1, p.2)
theorem encW_nil : encW [] = [] := rfl
theorem encW_app (L M : List (List Nat × V)) : encW (L ++ M) = encW L ++ encW M := List.map_append
theorem encW_len (L : List (List Nat × V)) : (encW L).length = L.length := List.length_map _
theorem valV_encW (s : List Nat) : ∀ L : List (List Nat × V), valV (encW L) (kk s) = (L.find? fun p => decide (p.1 = s)).map (·.2)
  | [] => rfl
  | p :: L => by
    show valV ((kk p.1, p.2) :: encW L) (kk s) = _
    by_cases e : p.1 = s
    · rw [valV_pos (by rw [e]), List.find?_cons_of_pos (by simpa using e)]
      rfl
    · rw [valV_neg (fun z => e (kk_inj z)), valV_encW s L, List.find?_cons_of_neg (by simpa using e)]
theorem putK_encW_new {L : List (List Nat × V)} {s : List Nat} (v : V) (h : ∀ p ∈ L, p.1 ≠ s) : putK (encW L) (kk s) v = encW (L ++ [(s, v)]) := by
  rw [putK_new, encW_app]
  · rfl
  · rw [valV_encW, List.find?_eq_none.mpr fun p hp => by simpa using h p hp]
    rfl
/-- the dict of a set of simplices -/
def encD (ks : List (List Nat)) : List (List Key × V) := encW (ks.map fun s => (s, V.bl true))
theorem encD_len (ks : List (List Nat)) : (encD ks).length = ks.length := by unfold encD; rw [encW_len, List.length_map]
theorem valV_encD (s : List Nat) (ks : List (List Nat)) : valV (encD ks) (kk s) = if s ∈ ks then some (V.bl true) else none := by
  unfold encD
  rw [valV_encW]
  induction ks with
  | nil => rfl
  | cons k ks ih =>
    rw [List.map_cons]
    by_cases e : k = s
    · rw [List.find?_cons_of_pos (by simpa using e), if_pos (by simp [e])]
      rfl
    · rw [List.find?_cons_of_neg (by simpa using e), ih]
      have : s ∈ k :: ks ↔ s ∈ ks := by simp [show ¬ s = k from fun z => e z.symm]
      by_cases h : s ∈ ks
      · rw [if_pos h, if_pos (this.mpr h)]
      · rw [if_neg h, if_neg (fun z => h (this.mp z))]
def insS (ks : List (List Nat)) (s : List Nat) : List (List Nat) := if s ∈ ks then ks else ks ++ [s]
theorem mem_insS {ks : List (List Nat)} {s k : List Nat} : k ∈ insS ks s ↔ k ∈ ks ∨ k = s := by
  unfold insS
  by_cases h : s ∈ ks
  · rw [if_pos h]
    exact ⟨.inl, fun z => z.elim id fun e => e ▸ h⟩
  · rw [if_neg h]; simp
theorem nodup_insS {ks : List (List Nat)} {s : List Nat} (h : ks.Nodup) : (insS ks s).Nodup := by
  unfold insS
  by_cases e : s ∈ ks
  · rw [if_pos e]; exact h
  · rw [if_neg e, List.nodup_append]
    exact ⟨h, by simp, fun a ha b hb z => e (by simp at hb; subst hb; exact z ▸ ha)⟩
theorem putK_same {κ : Type} [DecidableEq κ] (k : κ) (v : V) : ∀ {kvs : List (κ × V)}, (∀ p ∈ kvs, p.1 = k → p.2 = v) → kvs.map (fun kv => if kv.1 = k then (kv.1, v) else kv) = kvs
  | [], _ => rfl
  | p :: r, h => by
    rw [List.map_cons, putK_same k v fun q hq => h q (List.mem_cons_of_mem _ hq)]
    by_cases e : p.1 = k
    · rw [if_pos e, ← h p List.mem_cons_self e]
    · rw [if_neg e]
theorem putK_encD (ks : List (List Nat)) (s : List Nat) : putK (encD ks) (kk s) (V.bl true) = encD (insS ks s) := by
  by_cases h : s ∈ ks
  · unfold putK insS
    rw [if_pos h, valV_any, valV_encD, if_pos h]
    refine (if_pos rfl).trans (putK_same _ _ fun p hp _ => ?_)
    obtain ⟨q, hq, e⟩ := List.mem_map.mp hp
    obtain ⟨t, _, e2⟩ := List.mem_map.mp hq
    rw [← e, ← e2]
  · unfold insS
    rw [if_neg h]
    unfold encD
    rw [putK_encW_new, List.map_append]
    · rfl
    · intro p hp
      obtain ⟨t, ht, e2⟩ := List.mem_map.mp hp
      rw [← e2]
      exact fun e => h (e ▸ ht)
/-! ### the simplices of the law: at most three of five vertices -/
def U25 : List (List Nat) := [[0], [1], [2], [3], [4], [0, 1], [0, 2], [0, 3], [0, 4], [1, 2], [1, 3], [1, 4], [2, 3], [2, 4], [3, 4], [0, 1, 2], [0, 1, 3], [0, 1, 4], [0, 2, 3], [0, 2, 4], [0, 3, 4], [1, 2, 3], [1, 2, 4], [1, 3, 4], [2, 3, 4]]
theorem U25_asc : ∀ s ∈ U25, Asc s := by
  have h : ∀ s ∈ U25, s.Pairwise (· < ·) ∧ (∀ n ∈ s, n ≤ 30) ∧ s ≠ [] ∧ s.length ≤ 8 := by decide +kernel
  exact fun s hs => let ⟨a, b, c, d⟩ := h s hs; ⟨a, b, c, d⟩
theorem U25_len : ∀ s ∈ U25, s.length ≤ 3 ∧ 1 ≤ s.length := by decide +kernel
def pts (s : List Nat) : List (List Nat) := (subs s).drop 1
theorem U25_pts : ∀ s ∈ U25, ∀ p ∈ pts s, p ∈ U25 := by decide +kernel
theorem U25_self : ∀ s ∈ U25, s ∈ pts s := by decide +kernel
theorem mem_pts {s p : List Nat} : p ∈ pts s → p.Sublist s := fun h => mem_subs.mp (List.mem_of_mem_drop h)
theorem pts_trans : ∀ s ∈ U25, ∀ p ∈ pts s, ∀ q ∈ pts p, q ∈ pts s := by decide +kernel
theorem nodup_in {α : Type} [DecidableEq α] : ∀ {l D : List α}, l.Nodup → (∀ x ∈ l, x ∈ D) → l.length ≤ D.length
  | [], _, _, _ => Nat.zero_le _
  | a :: l, D, hn, h => by
    obtain ⟨h1, h2⟩ := List.nodup_cons.mp hn
    have ha := h a List.mem_cons_self
    have ih := nodup_in (l := l) (D := D.erase a) h2 fun x hx => by
      have hne : x ≠ a := fun e => h1 (e ▸ hx)
      exact (List.mem_erase_of_ne hne).mpr (h x (List.mem_cons_of_mem _ hx))
    rw [List.length_erase_of_mem ha] at ih
    have : 0 < D.length := List.length_pos_of_mem ha
    simp
    omega
theorem U25_many {ks : List (List Nat)} (hn : ks.Nodup) (h : ∀ k ∈ ks, k ∈ U25) : ks.length ≤ 25 := nodup_in (D := U25) hn h
/-- all faces of some simplices, each once -/
structure Fcs (ss ks : List (List Nat)) : Prop where
  nod : ks.Nodup
  mem : ∀ k, k ∈ ks ↔ ∃ s, s ∈ ss ∧ k ∈ pts s
theorem Fcs.in25 {ss ks : List (List Nat)} (h : Fcs ss ks) (hs : ∀ s ∈ ss, s ∈ U25) : ∀ k ∈ ks, k ∈ U25 := fun k hk => let ⟨s, h1, h2⟩ := (h.mem k).mp hk; U25_pts s (hs s h1) k h2
section
variable {P : Program} {w : World} {K : PySem.W.Frag} {mg : Str → Option Value} {base : Heap}
abbrev sIsSimplex : Stmt := topS 18
def spIsSimplex : Sp := fun vs H Q _ => ∃ (t : Addr) (s : List Nat), vs = [.ref t] ∧ H t = some (.tup (iv s)) ∧ Asc s ∧ ∀ H', Same H H' → Q (.bl true) H'
theorem scIsSimplex : FnScope ["value"] ["value"] (defScope sIsSimplex) := ⟨rfl, rfl, rfl, by decide +kernel, rfl, by decide +kernel, by decide +kernel⟩
theorem ok_is_simplex {f : Addr} {fd : FuncData} (T : Txt mg) (DA : Df P w K mg base 3 "is_ascending" ["value", "least", "most"] spIsAsc) (F : Fun K "is_simplex" "is_simplex" sIsSimplex f fd) : FnOk P w K mg base CX0 4 f fd ["value"] spIsSimplex := by
  refine F.ok scIsSimplex (fun vs H Q E h => ?_) (fun cdv A outer s0 H vs Q E hr h => ?_)
  · obtain ⟨t, s, rfl, _⟩ := h
    rfl
  obtain ⟨t, s, rfl, ht, hs, q⟩ := h
  exact ⟨_, pss_one (ps_ret (pe_f DA hr (pa_cons (pv 0) (pa_cons pe_int (pa_cons (pe_k T.mostL) pa_nil))))), _, rfl, t, s, rfl, ht, hs, q⟩
abbrev sGen : Stmt := topS 20
abbrev nGen : List Str := ["simplices", "found", "simplex", "part"]
def spGen : Sp := fun vs H Q _ => ∃ (t : Addr) (ss : List (List Nat)), vs = [.ref t] ∧ TS H t ss ∧ (∀ s ∈ ss, s ∈ U25) ∧ ∀ H' d ks, Same H H' → H d = none → H' d = some (.dT (encD ks)) → Fcs ss ks → Q (.ref d) H'
theorem scGen : FnScope nGen ["simplices"] (defScope sGen) := ⟨rfl, rfl, rfl, by decide +kernel, rfl, by decide +kernel, by decide +kernel⟩
theorem ok_gen {f : Addr} {fd : FuncData} (T : Txt mg) (DP : Df P w K mg base 1 "parts_of" ["simplex"] spParts) (F : Fun K "generated" "generated" sGen f fd) : FnOk P w K mg base CX0 2 f fd ["simplices"] spGen := by
  refine F.ok scGen (fun vs H Q E h => ?_) (fun cdv A outer s0 H vs Q E hr h => ?_)
  · obtain ⟨t, s, rfl, _⟩ := h
    rfl
  obtain ⟨t, ss, rfl, ht, hs, q⟩ := h
  have hu := hu_of hr
  obtain ⟨ys, et, lv⟩ := ht
  refine ⟨_, pss_cons (ps_set (i := 1) scGen.nd rfl (.inl rfl) pe_dnewT)
    (pss_cons (ps_for PassesOwn.never rfl (pi_tup (pv 0)) (pg_name (i := 2) scGen.nd rfl (.inl rfl)) (pss_one (ps_if (pt_cmp (pc_dnotin hu (pv 2) (pv 1)))
      (pss_cons (ps_for PassesOwn.never rfl (pi_list (pe_f DP hr (pa_cons (pv 2) pa_nil))) (pg_name (i := 3) scGen.nd rfl (.inl rfl)) (pss_one (ps_dput hu (pv 1) (pv 3) pe_bl rfl)))
      (pss_one (ps_if (pt_cmpR op_gt (pe_callB call_len_dT (by rfl) T.len PySem.boot_len (pa_cons (pv 1) pa_nil)) (pe_k T.mostF) (nomark _)) (pss_one ps_never) pss_nil))) pss_nil)))
    (pss_one (ps_ret (pv 1)))), ?_⟩
  -- found = {}
  refine fun d nd => ?_
  have sm0 : Same H (upd H d (.dT [])) := same_upd nd
  refine ⟨_, rfl, t, rfl, ⟨_, SqT.of (sm0 _ _ et)⟩, for_tup (xs := ys) (fun i σ H' => ∃ y2 y3 ks, σ = [some (.ref t), some (.ref d), y2, y3] ∧ Same H H' ∧ H' d = some (.dT (encD ks)) ∧ Fcs (ss.take i) ks) ?_ (fun i σ H' _ p => ?_) (fun i x σ H' hx p => ?_) fun σ H' p => ?_⟩
  · exact ⟨none, none, [], rfl, sm0, upd_same, List.nodup_nil, fun k => by simp⟩
  · obtain ⟨y2, y3, ks, rfl, sm, _⟩ := p
    exact SqT.of (sm _ _ et)
  · obtain ⟨y2, y3, ks, rfl, sm, ed, fc⟩ := p
    obtain ⟨s, es, a, rfl, ha⟩ := lv.at' i x hx
    have hsU : s ∈ U25 := hs s (List.mem_of_getElem? es)
    have hsub : ∀ z ∈ ss.take i, z ∈ U25 := fun z hz => hs z (List.mem_of_mem_take hz)
    have tk1 : ss.take (i + 1) = ss.take i ++ [s] := by rw [List.take_add_one, es]; rfl
    have ha' : H' a = some (.tup ((kk s).map kV)) := by rw [kk_kV]; exact sm _ _ ha
    refine ⟨_, rfl, _, rfl, d, _, rfl, DGet.t ed ha', _, rfl, ?_⟩
    rw [valV_encD]
    by_cases hm : s ∈ ks
    · rw [if_pos hm]
      refine iteF ⟨_, y3, ks, rfl, sm, ed, fc.nod, fun k => ?_⟩
      rw [fc.mem, tk1]
      constructor
      · rintro ⟨z, hz, hk⟩
        exact ⟨z, List.mem_append_left _ hz, hk⟩
      · rintro ⟨z, hz, hk⟩
        rcases List.mem_append.mp hz with hz | hz
        · exact ⟨z, hz, hk⟩
        · have : z = s := by simpa using hz
          subst this
          obtain ⟨y, hy, hzy⟩ := (fc.mem z).mp hm
          exact ⟨y, hy, pts_trans y (hsub y hy) z hzy k hk⟩
    · rw [if_neg hm]
      refine iteT ⟨_, rfl, a, s, rfl, sm _ _ ha, (U25_asc s hsU).le, fun H1 p sm1 np lp => ?_⟩
      obtain ⟨zs, ep, lz⟩ := lp
      have ed1 := sm1 _ _ ed
      have nda : d ≠ p := ne_of_none ed np
      refine ⟨p, rfl, ⟨_, SqL.of ep⟩, for_list (xs := zs) (fun j σ H2 => ∃ y3 ks2, σ = [some (.ref t), some (.ref d), some (.ref a), y3] ∧ Same H H2 ∧ H2 p = some (.lst zs) ∧ LV H2 zs (pts s) ∧ H2 d = some (.dT (encD ks2)) ∧ ks2.Nodup ∧ ∀ k, k ∈ ks2 ↔ k ∈ ks ∨ k ∈ (pts s).take j) ?_ (fun j σ H2 _ p2 => ?_) (fun j x σ H2 hx2 p2 => ?_) fun σ H2 p2 => ?_⟩
      · exact ⟨y3, ks, rfl, sm.trans sm1, ep, lz, ed1, fc.nod, fun k => by simp⟩
      · obtain ⟨_, _, rfl, _, ep2, _⟩ := p2
        exact SqL.of ep2
      · obtain ⟨y3, ks2, rfl, sm2, ep2, lz2, ed2, nd2, m2⟩ := p2
        obtain ⟨k, ek, b, rfl, hb⟩ := lz2.at' j x hx2
        have hb' : H2 b = some (.tup ((kk k).map kV)) := by rw [kk_kV]; exact hb
        have kU : ∀ z ∈ ks2, z ∈ U25 := fun z hz => by
          rcases (m2 z).mp hz with h | h
          · exact fc.in25 hsub z h
          · exact U25_pts s hsU z (List.mem_of_mem_take h)
        have hlen := U25_many nd2 kU
        refine ⟨_, rfl, _, rfl, d, _, rfl, DPut.t ed2 hb' (by rw [encD_len]; exact small1000 (by omega)), ?_⟩
        rw [putK_encD]
        refine ⟨_, insS ks2 k, rfl, fun c o e => ?_, ?_, lz2.tk (tk_upd ed2 fun xs z => by cases z), upd_same, nodup_insS nd2, fun z => ?_⟩
        · rw [upd_ne (ne_of_none e nd)]
          exact sm2 c o e
        · rw [upd_ne nda.symm]
          exact ep2
        · rw [mem_insS, m2, List.take_add_one, ek]
          simp [or_assoc]
      · obtain ⟨y3, ks2, rfl, sm2, ep2, lz2, ed2, nd2, m2⟩ := p2
        have elen : zs.length = (pts s).length := lz2.len
        rw [elen, List.take_length] at m2
        have fc2 : Fcs (ss.take (i + 1)) ks2 := by
          refine ⟨nd2, fun k => ?_⟩
          rw [m2, fc.mem, tk1]
          constructor
          · rintro (⟨z, hz, hk⟩ | hk)
            · exact ⟨z, List.mem_append_left _ hz, hk⟩
            · exact ⟨s, by simp, hk⟩
          · rintro ⟨z, hz, hk⟩
            rcases List.mem_append.mp hz with hz | hz
            · exact .inl ⟨z, hz, hk⟩
            · have : z = s := by simpa using hz
              subst this
              exact .inr hk
        have hlen := U25_many nd2 (fc2.in25 fun z hz => hs z (List.mem_of_mem_take hz))
        refine ⟨_, rfl, d, _, rfl, ed2, _, _, rfl, rfl, _, rfl, ?_⟩
        rw [decide_eq_false (by rw [encD_len]; omega)]
        exact iteF ⟨_, y3, ks2, rfl, sm2, ed2, fc2⟩
  · obtain ⟨y2, y3, ks, rfl, sm, ed, fc⟩ := p
    have e : ys.length = ss.length := lv.len
    rw [e, List.take_length] at fc
    exact ⟨_, rfl, q H' d ks sm nd ed fc⟩
end
end G98
namespace G98
open PySem PySem.Spec PyProof.Rows L2
/-! ### sorted, in use: rel says what an item stands for, enc what it reads as -/
abbrev dLe : PyData → PyData → Bool := PySem.W.dataLe false (fun d : PyData => d)
/-- the list of what was sorted: zs, which stand for bs -/
def srtd (bs : List It2) : List V := (bs.mergeSort (PySem.W.dataLe false Prod.snd)).map Prod.fst
theorem srt_use {α : Type} {K : PySem.W.Frag} {H : Hp} {D : Addr} {ys : List V} {as : List α} (enc : α → PyData) (rel : V → α → Prop) (hD : H D = some (.lst ys)) (hl : ys.length = as.length)
    (hrel : ∀ (j : Nat) (y : V), ys[j]? = some y → ∃ a, as[j]? = some a ∧ rel y a) (hdp : ∀ y a, rel y a → Dp K H y (enc a)) (hal : ∀ a b, PySem.W.alike (enc a) (enc b) = true) (hso : ∀ a ∈ as, ∃ x r, enc a = .tuple (x :: r)) (hde : ∀ a ∈ as, (enc a).depth ≤ 50) (hz : as.length ≤ sizeLine) :
    ∃ bs : List It2, (SqL K H D (bs.map Prod.fst) ∧ (∀ b ∈ bs, Dp K H b.1 b.2) ∧ PySem.W.AllAlike (bs.map Prod.snd) ∧ PySem.W.Sortable (bs.map Prod.snd) ∧ (∀ b ∈ bs, b.2.depth ≤ 50) ∧ bs.length ≤ sizeLine) ∧
      ∃ fs : List α, fs.Perm as ∧ fs.Pairwise (fun a b => dLe (enc a) (enc b) = true) ∧ (srtd bs).length = fs.length ∧ ∀ (j : Nat) (z : V), (srtd bs)[j]? = some z → ∃ b, fs[j]? = some b ∧ rel z b := by
  have kz : ∀ p ∈ ys.zip as, rel p.1 p.2 := by
    intro p hp
    obtain ⟨j, hj⟩ := List.getElem?_of_mem hp
    rw [List.getElem?_zip_eq_some] at hj
    obtain ⟨h1, h2⟩ := hj
    obtain ⟨a, e, r⟩ := hrel j p.1 h1
    rw [h2] at e
    cases e
    exact r
  obtain ⟨m1, m2⟩ := zip_maps hl
  have e1 : ((ys.zip as).map fun p => ((p.1, enc p.2) : It2)).map Prod.fst = ys := by
    rw [List.map_map]
    exact m1
  refine ⟨(ys.zip as).map fun p => (p.1, enc p.2), ⟨SqL.of (by rw [hD, e1]), fun b hb => ?_, fun x hx y hy => ?_, .inl fun x hx => ?_, fun b hb => ?_, ?_⟩, ?_⟩
  · obtain ⟨z, hz, e⟩ := List.mem_map.mp hb
    subst e
    exact hdp _ _ (kz z hz)
  · obtain ⟨b, hb, e⟩ := List.mem_map.mp hx
    obtain ⟨z, _, e2⟩ := List.mem_map.mp hb
    obtain ⟨c, hc, e3⟩ := List.mem_map.mp hy
    obtain ⟨u, _, e4⟩ := List.mem_map.mp hc
    rw [← e, ← e2, ← e3, ← e4]
    exact hal _ _
  · obtain ⟨b, hb, e⟩ := List.mem_map.mp hx
    obtain ⟨z, hz2, e2⟩ := List.mem_map.mp hb
    rw [← e, ← e2]
    exact hso _ (List.of_mem_zip hz2).2
  · obtain ⟨z, hz, e⟩ := List.mem_map.mp hb
    subst e
    exact hde _ (List.of_mem_zip hz).2
  · rw [List.length_map, List.length_zip]
    omega
  · -- the sorted pairs
    let r : V × α → V × α → Bool := fun a b => dLe (enc a.2) (enc b.2)
    have em : ((ys.zip as).mergeSort r).map (fun p => ((p.1, enc p.2) : It2)) = (((ys.zip as).map fun p => ((p.1, enc p.2) : It2)).mergeSort (PySem.W.dataLe false Prod.snd)) := List.map_mergeSort fun a _ b _ => rfl
    have ps : ((ys.zip as).mergeSort r).Perm (ys.zip as) := List.mergeSort_perm _ _
    have pw : ((ys.zip as).mergeSort r).Pairwise (fun a b => r a b = true) := PySem.W.sort_pairwise (PySem.W.sortLe_total _ false _) (ys.zip as)
    have en : srtd ((ys.zip as).map fun p => ((p.1, enc p.2) : It2)) = ((ys.zip as).mergeSort r).map Prod.fst := by
      unfold srtd
      rw [← em, List.map_map]
      rfl
    rw [en]
    refine ⟨((ys.zip as).mergeSort r).map Prod.snd, ?_, List.pairwise_map.mpr pw, by rw [List.length_map, List.length_map], fun j z hz => ?_⟩
    · have := ps.map Prod.snd
      rw [m2] at this
      exact this
    · rw [List.getElem?_map] at hz
      obtain ⟨u, hu, e⟩ := Option.map_eq_some_iff.mp hz
      refine ⟨u.2, by rw [List.getElem?_map, hu]; rfl, ?_⟩
      rw [← e]
      exact kz u (ps.mem_iff.mp (List.mem_of_getElem? hu))
/-! ### the order of simplices: by length, then ascending -/
def iD (s : List Nat) : List PyData := s.map fun n : Nat => PyData.int (n : Int)
theorem iD_eq (s : List Nat) : iD s = (s.map fun n : Nat => (n : Int)).map PyData.int := by
  unfold iD
  rw [List.map_map]
  rfl
def encS (s : List Nat) : PyData := .tuple [.int (s.length : Int), .tuple (iD s)]
theorem alike_ints (s t : List Nat) : PySem.W.alikeAll (iD s) (iD t) = true := by
  rw [iD_eq, iD_eq]
  exact PySem.W.alike_ints _ _
theorem depth_ints (s : List Nat) : PyData.depthAll (iD s) = 0 := by
  rw [iD_eq]
  exact PySem.W.depth_ints _
theorem encS_alike (a b : List Nat) : PySem.W.alike (encS a) (encS b) = true := by
  unfold encS
  simp [PySem.W.alike, PySem.W.alikeAll, alike_ints]
theorem encS_depth (s : List Nat) : (encS s).depth ≤ 50 := by
  unfold encS
  simp [PyData.depth, PyData.depthAll, depth_ints]
theorem ints_inj {s t : List Nat} (h : PyData.eqvAll (iD s) (iD t) = true) : s = t := by
  induction s generalizing t with
  | nil =>
    cases t with
    | nil => rfl
    | cons b t => simp [iD, PyData.eqvAll] at h
  | cons a s ih =>
    cases t with
    | nil => simp [iD, PyData.eqvAll] at h
    | cons b t =>
      have h : PyData.eqvAll (PyData.int (a : Int) :: iD s) (PyData.int (b : Int) :: iD t) = true := h
      rw [PyData.eqvAll, Bool.and_eq_true] at h
      have h1 : (a : Int) = (b : Int) := by simpa [PyData.eqv] using h.1
      rw [ih h.2]
      have : a = b := by omega
      rw [this]
theorem tupLt (s t : List Nat) : PySem.W.dataLt (.tuple (iD s)) (.tuple (iD t)) = decide ((s.map fun n : Nat => (n : Int)) < (t.map fun n : Nat => (n : Int))) := by
  rw [PySem.W.dataLt_tuple, iD_eq, iD_eq]
  exact PySem.W.dataLt_ints _ _
/-- two that are not before each other are one -/
theorem tup_anti {s t : List Nat} (h1 : PySem.W.dataLt (.tuple (iD s)) (.tuple (iD t)) = false) (h2 : PySem.W.dataLt (.tuple (iD t)) (.tuple (iD s)) = false) : s = t := by
  rw [tupLt] at h1 h2
  have l1 := List.not_lt.mp (of_decide_eq_false h1)
  have l2 := List.not_lt.mp (of_decide_eq_false h2)
  have e : (s.map fun n : Nat => (n : Int)) = t.map fun n : Nat => (n : Int) := List.le_antisymm l2 l1
  have inj : ∀ {a b : Nat}, (a : Int) = (b : Int) → a = b := fun h => by omega
  exact (List.map_inj_right fun a b h => inj h).mp e
theorem encS_lt (a b : List Nat) : PySem.W.dataLt (encS a) (encS b) = if a.length = b.length then PySem.W.dataLt (.tuple (iD a)) (.tuple (iD b)) else decide (a.length < b.length) := by
  unfold encS
  rw [PySem.W.dataLt_pair (by simp [PySem.W.alike]) (by simp [PySem.W.alike, alike_ints]), PySem.W.dataLt_int]
  by_cases h : a.length = b.length
  · rw [if_pos (by simp [PyData.eqv, h]), if_pos h]
    by_cases h2 : PyData.eqv (.tuple (iD a)) (.tuple (iD b)) = true
    · rw [if_pos h2]
      have e : a = b := ints_inj (by simpa [PyData.eqv] using h2)
      subst e
      rw [tupLt]
      simp
    · rw [if_neg h2]
  · rw [if_neg (by simp [PyData.eqv]; omega), if_neg h]
    rw [Bool.eq_iff_iff]
    simp
theorem encS_anti {a b : List Nat} (h1 : dLe (encS a) (encS b) = true) (h2 : dLe (encS b) (encS a) = true) : a = b := by
  have g1 : (!PySem.W.dataLt (encS b) (encS a)) = true := h1
  have g2 : (!PySem.W.dataLt (encS a) (encS b)) = true := h2
  rw [Bool.not_eq_true', encS_lt] at g1 g2
  by_cases h : a.length = b.length
  · rw [if_pos h.symm] at g1
    rw [if_pos h] at g2
    exact tup_anti g2 g1
  · rw [if_neg (fun z => h z.symm)] at g1
    rw [if_neg h] at g2
    simp at g1 g2
    omega
/-- the simplices of a set in their order -/
structure Ordd (ks fs : List (List Nat)) : Prop where
  perm : fs.Perm ks
  srt : fs.Pairwise fun a b => dLe (encS a) (encS b) = true
theorem Ordd.one {ks ks' fs fs' : List (List Nat)} (h : Ordd ks fs) (h' : Ordd ks' fs') (p : ks.Perm ks') : fs = fs' :=
  List.Perm.eq_of_pairwise (le := fun a b => dLe (encS a) (encS b) = true) (fun a b _ _ h1 h2 => encS_anti h1 h2) h.srt h'.srt (h.perm.trans (p.trans h'.perm.symm))
/-- a pair of a length and a simplex -/
def IsP (H : Hp) (y : V) (s : List Nat) : Prop := ∃ q q2, y = .ref q ∧ H q = some (.tup [.int (s.length : Int), .ref q2]) ∧ H q2 = some (.tup (iv s))
theorem IsP.tk {H H' : Hp} {y : V} {s : List Nat} (k : Tk H H') (h : IsP H y s) : IsP H' y s := let ⟨q, q2, e, h1, h2⟩ := h; ⟨q, q2, e, k _ _ h1, k _ _ h2⟩
theorem dpAll_iv {K : PySem.W.Frag} {H : Hp} : ∀ s : List Nat, DpAll K H (iv s) (iD s)
  | [] => .nil
  | n :: s => .cons (.int _) (dpAll_iv s)
theorem IsP.dp {K : PySem.W.Frag} {H : Hp} {y : V} {s : List Nat} (h : IsP H y s) : Dp K H y (encS s) := by
  obtain ⟨q, q2, rfl, h1, h2⟩ := h
  exact .tup (SqT.of h1) (.cons (.int _) (.cons (.tup (SqT.of h2) (dpAll_iv s)) .nil))
section
variable {P : Program} {w : World} {K : PySem.W.Frag} {mg : Str → Option Value} {base : Heap}
/-- len of the tuple in a slot, as a reading -/
abbrev tLen (K : PySem.W.Frag) (i : Nat) : TE := tCB (fun xs H Q => ∃ p ys, xs = [.ref p] ∧ (SqL K H p ys ∨ SqT K H p ys) ∧ Q (.int ys.length) H) (tCons (tVar i) tNil)
abbrev sInOrder : Stmt := topS 21
abbrev nInOrder : List Str := ["simplices", "pair", "simplex"]
def spInOrder : Sp := fun vs H Q _ => ∃ (d : Addr) (ks : List (List Nat)), vs = [.ref d] ∧ H d = some (.dT (encD ks)) ∧ ks.length ≤ 1000 ∧ ∀ H' p fs, Same H H' → H p = none → LS H' p fs → Ordd ks fs → Q (.ref p) H'
theorem scInOrder : FnScope nInOrder ["simplices"] (defScope sInOrder) := ⟨rfl, rfl, rfl, by decide +kernel, rfl, by decide +kernel, by decide +kernel⟩
theorem encD_at {ks : List (List Nat)} {i : Nat} {k : List Key} {v : V} (h : (encD ks)[i]? = some (k, v)) : ∃ s, ks[i]? = some s ∧ k = kk s ∧ v = .bl true := by
  unfold encD encW at h
  rw [List.map_map, List.getElem?_map] at h
  obtain ⟨s, hs, e⟩ := Option.map_eq_some_iff.mp h
  cases e
  exact ⟨s, hs, rfl, rfl⟩
theorem ok_in_order {f : Addr} {fd : FuncData} (T : Txt mg) (F : Fun K "in_order" "in_order" sInOrder f fd) : FnOk P w K mg base CX0 1 f fd ["simplices"] spInOrder := by
  refine F.ok scInOrder (fun vs H Q E h => ?_) (fun cdv A outer s0 H vs Q E hr h => ?_)
  · obtain ⟨t, s, rfl, _⟩ := h
    rfl
  obtain ⟨d, ks, rfl, ed, hl, q⟩ := h
  refine ⟨_, pss_one (ps_ret (pe_lc (own := [("pair", 1)]) (g := gName 1) (tt := tYes) (te := tOp (rIxT K) (tVar 1) (tC (.int 1))) rfl scInOrder.nd
    (pi_list (pe_callB (cr_srt hr.units) (by rfl) T.sorted (by decide +kernel) (pa_cons (pe_lock
      (pe_lc (own := [("simplex", 2)]) (g := gName 2) (tt := tYes) (te := tTup (tCons (tLen K 2) (tCons (tVar 2) tNil))) rfl scInOrder.nd (pi_keys (pv 0)) (blkOk_by (N := nInOrder) (sc := defScope sInOrder) (by decide +kernel))
        (fun _ _ _ _ _ => pg_name (i := 2) scInOrder.nd rfl (.inl rfl)) (fun _ _ _ _ _ => pts_nil) (fun _ _ _ _ _ => pe_tup (pa_cons (pe_callB call_len_seq (by rfl) T.len PySem.boot_len (pa_cons (pv 2) pa_nil)) (pa_cons (pv 2) pa_nil))))) pa_nil)))
    (blkOk_by (N := nInOrder) (sc := defScope sInOrder) (by decide +kernel)) (fun _ _ _ _ _ => pg_name (i := 1) scInOrder.nd rfl (.inl rfl)) (fun _ _ _ _ _ => pts_nil) (fun _ _ _ _ _ => pe_ix ix_tup (pv 1) pe_int (fun _ _ => rfl)))), ?_⟩
  refine ⟨d, _, ed, True.intro, fun od => ?_⟩
  have e0 : (upd H d (.frz od (.dT (encD ks)))) d = some (.frz od (.dT (encD ks))) := upd_same
  have tk0 : Tk H (upd H d (.frz od (.dT (encD ks)))) := tk_upd ed fun xs z => by cases z
  refine ⟨_, rfl, d, od, rfl, .inr ⟨_, e0, fun D hD => lc_map (walk_keysT (kvs := encD ks)) (fun j y H => ∃ s, ks[j]? = some s ∧ IsP H y s) (fun j y H1 H2 k h => let ⟨s, e, h⟩ := h; ⟨s, e, h.tk k⟩) (fun H1 sm => sm _ _ e0) (by rw [encD_len]; exact small1000 hl) hD
    (fun j x H1 H2 R hj sm _ hy r => ?_) fun H1 ys sm eD hyl hy => ?_⟩⟩
  · obtain ⟨rfl, k, v, p, hk, rfl, hp⟩ := hy
    obtain ⟨s, hs, rfl, rfl⟩ := encD_at hk
    rw [kk_kV] at hp
    refine ⟨rfl, _, rfl, p, _, rfl, .inr (SqT.of hp), _, rfl, by show 2 ≤ sizeLine; decide, fun u nu => r _ _ (same_upd nu) ⟨s, hs, u, p, rfl, ?_, ?_⟩⟩
    · rw [upd_same, iv_len]
    · exact (same_upd nu) _ _ hp
  · have ed1 : H1 d = some (.frz od (.dT (encD ks))) := sm _ _ e0
    refine ⟨ed1, ?_⟩
    have nD : D ≠ d := fun z => by
      rw [z, e0] at hD
      cases hD
    have eD' : (upd H1 d (.dT (encD ks))) D = some (.lst ys) := by rw [upd_ne nD]; exact eD
    have tk1 : Tk H1 (upd H1 d (.dT (encD ks))) := tk_upd ed1 fun xs z => by cases z
    have smA : Same H (upd H1 d (.dT (encD ks))) := fun b o e => by
      by_cases hb : b = d
      · subst hb
        rw [upd_same, ← ed]
        exact e
      · rw [upd_ne hb]
        exact sm b o (by rw [upd_ne hb]; exact e)
    have hDn : H D = none := by
      rw [upd_ne nD] at hD
      exact hD
    generalize upd H1 d (.dT (encD ks)) = H2 at eD' tk1 smA
    rw [encD_len] at hyl
    obtain ⟨bs, ⟨b1, b2, b3, b4, b5, b6⟩, fs, hperm, hsrt, hzl, hz⟩ := srt_use (K := K) (as := ks) encS (IsP H2) eD' hyl (fun j y e => let ⟨s, e1, h⟩ := hy j y e; ⟨s, e1, h.tk tk1⟩) (fun y a h => h.dp) encS_alike (fun a _ => ⟨_, _, rfl⟩) (fun a _ => encS_depth a) (small_line hl)
    refine ⟨D, bs, rfl, b1, b2, b3, b4, b5, b6, fun p np => ?_⟩
    generalize hzs : srtd bs = zs at hzl hz
    have hzs2 : (bs.mergeSort (PySem.W.dataLe false Prod.snd)).map Prod.fst = zs := hzs
    rw [hzs2]
    have smB : Same H2 (upd H2 p (.lst zs)) := same_upd np
    have lfs : fs.length ≤ 1000 := by rw [hperm.length_eq]; exact hl
    refine ⟨p, rfl, ⟨_, SqL.of upd_same⟩, fun D2 hD2 => lc_map (walk_list (xs := zs)) (fun j y H => ∃ s, fs[j]? = some s ∧ IsS H y s) (fun j y H1 H2 k h => let ⟨s, e, h⟩ := h; ⟨s, e, h.tk k⟩) (fun H3 sm3 => SqL.of (sm3 _ _ upd_same)) (small1000 (by omega)) hD2
      (fun j x H3 H4 R hj sm3 _ hy r => ?_) fun H3 us sm3 eD3 hul hu => ?_⟩
    · obtain ⟨rfl, hx⟩ := hy
      obtain ⟨s, es, q1, q2, rfl, h1, h2⟩ := hz j x hx
      have t3 : Tk H2 H4 := (same_tk smB).trans (same_tk sm3)
      exact ⟨rfl, _, rfl, q1, _, 1, .ref q2, rfl, rfl, SqT.of (t3 _ _ h1), atI_nat (j := 1) rfl, r _ _ (Same.refl _) ⟨s, es, q2, rfl, t3 _ _ h2⟩⟩
    · have smC : Same H H3 := smA.trans (smB.trans sm3)
      have hD2n : H D2 = none := (smA.trans smB).free hD2
      exact q H3 D2 fs smC hD2n ⟨us, eD3, LV.of hul (by omega) hu⟩ ⟨hperm, hsrt⟩
end
end G98
namespace G98
open PySem PySem.Spec PyProof.Rows L2
/-! ### t[:n] + t[n + 1:] -/
abbrev tOne (tn : TE) : TE := tOp (rI0 fun i j => .int (i + j)) tn (tC (.int 1))
abbrev tCutG (K : PySem.W.Frag) (ta tn : TE) : TE := tOp (rCatA K) (tSl (rSlA K) ta tNoPart (tPart tn)) (tSl (rSlA K) ta (tPart (tOne tn)) tNoPart)
/-- a reading that gives x whenever what stood stands -/
def Gives (t : TE) (σ : Sl) (H : Hp) (x : V) : Prop := ∀ (H' : Hp) (Q : VK), Same H H' → Q x H' → t σ H' Q
theorem Gives.same {t : TE} {σ : Sl} {H H' : Hp} {x : V} (s : Same H H') (g : Gives t σ H x) : Gives t σ H' x := fun H2 Q s2 q => g H2 Q (s.trans s2) q
theorem gives_var {i : Nat} {σ : Sl} {H : Hp} {x : V} (h : σ[i]? = some (some x)) : Gives (tVar i) σ H x := fun H' Q _ q => ⟨x, h, q⟩
theorem cut_to (k : Nat) (xs : List V) : cutV xs none (some (k : Int)) = xs.take k := by
  unfold cutV
  rw [HT.sIx_nat, HT.sIx_none, List.drop_zero, Nat.sub_zero]
  by_cases h : k ≤ xs.length
  · rw [Nat.min_eq_left h]
  · rw [Nat.min_eq_right (by omega), List.take_of_length_le (Nat.le_refl _), List.take_of_length_le (by omega)]
theorem cut_use {K : PySem.W.Frag} {ta tn : TE} {σ : Sl} {H : Hp} {a : Addr} {s : List Nat} {n : Nat} {Q : VK} (ga : Gives ta σ H (.ref a)) (gn : Gives tn σ H (.int (n : Int))) (ha : H a = some (.tup (iv s))) (hn : n < s.length) (hl : s.length ≤ 1000)
    (q : ∀ (p : Addr) (H' : Hp), Same H H' → H' p = some (.tup (iv (s.eraseIdx n))) → Q (.ref p) H') : tCutG K ta tn σ H Q := by
  have er : iv (s.eraseIdx n) = (iv s).take n ++ (iv s).drop (n + 1) := by
    rw [List.eraseIdx_eq_take_drop_succ]
    unfold iv
    rw [List.map_append, List.map_take, List.map_drop]
  have l1 : ((iv s).take n).length = n := by rw [List.length_take, iv_len]; omega
  have l2 : ((iv s).drop (n + 1)).length = s.length - (n + 1) := by rw [List.length_drop, iv_len]
  -- the first part is never the whole
  refine ga H _ (Same.refl _) (gn H _ (Same.refl _) ⟨(n : Int), rfl, a, iv s, rfl, SqT.of ha, fun z => ?_, fun _ p np => ?_⟩)
  · exfalso
    have := z.2
    rw [HT.sIx_nat, iv_len, Nat.min_eq_left (by omega)] at this
    omega
  have s1 : Same H (upd H p (.tup (cutV (iv s) none (some (n : Int))))) := same_upd np
  have e1 : (upd H p (.tup (cutV (iv s) none (some (n : Int))))) p = some (.tup ((iv s).take n)) := by rw [upd_same, cut_to]
  generalize upd H p (.tup (cutV (iv s) none (some (n : Int)))) = H1 at s1 e1
  have last : ∀ (b : Addr) (H2 : Hp), Same H1 H2 → H2 b = some (.tup ((iv s).drop (n + 1))) → rCatA K (.ref p) (.ref b) H2 Q := fun b H2 s2 hb => by
    refine ⟨p, b, _, _, rfl, rfl, SqT.of (s2 _ _ e1), SqT.of hb, ?_, fun z => ?_, fun z1 z2 => ?_, fun z1 z2 c nc => ?_⟩
    · rw [l1, l2]
      exact small_line (by omega)
    · refine q b H2 (s1.trans s2) ?_
      rw [er, z, List.nil_append]
      exact hb
    · refine q p H2 (s1.trans s2) ?_
      rw [er, z2, List.append_nil]
      exact s2 _ _ e1
    · refine q c _ (s1.trans (s2.trans (same_upd nc))) ?_
      rw [upd_same, er]
  refine ga H1 _ s1 (gn H1 _ s1 ⟨(n : Int), 1, rfl, rfl, ((n + 1 : Nat) : Int), by rw [Int.natCast_add]; rfl, a, iv s, rfl, SqT.of (s1 _ _ ha), fun z => ?_, fun _ b nb => ?_⟩)
  · exfalso
    have := z.1
    rw [HT.sIx_nat, iv_len] at this
    omega
  · refine last b _ (same_upd nb) ?_
    rw [upd_same, cut_from _ _ (by rw [iv_len]; omega)]
end G98
namespace G98
open PySem PySem.Spec PyProof.Rows L2
/-! ### locks -/
theorem same_lock {H H1 : Hp} {d : Addr} {x : HO} (s : Same H H1) : Same (upd H d x) (upd H1 d x) := fun b o e => by
  by_cases h : b = d
  · subst h
    rw [upd_same] at e ⊢
    exact e
  · rw [upd_ne h] at e ⊢
    exact s b o e
theorem same_unlock {H H1 : Hp} {d : Addr} {x u : HO} (ed : H d = some u) (s : Same (upd H d x) H1) : Same H (upd H1 d u) := fun b o e => by
  by_cases h : b = d
  · subst h
    rw [upd_same, ← ed]
    exact e
  · rw [upd_ne h]
    exact s b o (by rw [upd_ne h]; exact e)
/-- a list comprehension with tests: the turns kp keeps, each item told by F -/
theorem lc_flt {J : It} {n : Nat} {G : Hp → Prop} {Y : Nat → Hp → V → Hp → Prop} (w : Walk J n G Y) {g : TG} {tt : TT} {te : TE} {vs : List Nat} {σ : Sl} {H1 : Hp} {D : Addr} {Qd : Hp → Prop} (kp : Nat → Bool) (F : Nat → V → Hp → Prop)
    (hF : ∀ i y H H', Tk H H' → F i y H → F i y H') (hG : ∀ H, Same H1 H → G H) (hn : n < sizeLine) (hD : H1 D = none)
    (hs : ∀ (i : Nat) (x : V) (H H2 : Hp) (R : VK) (N : Hp → Prop), i < n → Same H1 H → (∃ l, H D = some (.lst l)) → Y i H x H2 → (kp i = true → ∀ y H3, Same H H3 → F i y H3 → R y H3) → (kp i = false → ∀ H3, Same H H3 → N H3) →
      g x (wipe σ vs) H2 fun σ2 H3 => wipe σ2 vs = wipe σ vs ∧ tt σ2 H3 fun b H4 => if b = true then te σ2 H4 R else N H4)
    (hd : ∀ (H' : Hp) (ys : List V), Same H1 H' → H' D = some (.lst ys) → ys.length = ((List.range n).filter kp).length → (∀ (j : Nat) (y : V), ys[j]? = some y → ∃ i, ((List.range n).filter kp)[j]? = some i ∧ F i y H') → Qd H') :
    ∃ W : Nat → Nat → Hp → Prop, (∃ m, W 0 m (upd H1 D (.lst []))) ∧ ∀ i m H, W i m H →
      (J.stop i H ∧ Qd H) ∨ (J.go i H ∧ ∃ Nx : Hp → Prop, (∀ H', Nx H' → ∃ m', m' < m ∧ W (i + 1) m' H') ∧ ∀ x H', J.yld i H x H' → g x (wipe σ vs) H' fun σ2 H2 => wipe σ2 vs = wipe σ vs ∧ tt σ2 H2 fun b H3 =>
        if b = true then te σ2 H3 fun y H4 => ∃ acc, H4 D = some (.lst acc) ∧ acc.length < sizeLine ∧ Nx (upd H4 D (.lst (acc ++ [y]))) else Nx H3) := by
  have rg : ∀ i, (List.range (i + 1)).filter kp = (List.range i).filter kp ++ if kp i = true then [i] else [] := fun i => by
    rw [List.range_succ, List.filter_append]
    by_cases h : kp i = true
    · rw [if_pos h]; simp [h]
    · rw [if_neg h]; simp [h]
  let Pv : Nat → Hp → Prop := fun i H => Same H1 H ∧ ∃ ys : List V, H D = some (.lst ys) ∧ ys.length = ((List.range i).filter kp).length ∧ ∀ (j : Nat) (y : V), ys[j]? = some y → ∃ k, ((List.range i).filter kp)[j]? = some k ∧ F k y H
  refine lc_it w Pv ⟨same_upd hD, [], upd_same, rfl, fun j y h => by simp at h⟩ (fun i H _ p => hG H p.1) (fun i x H H' hi p y => ?_) fun H p => ?_
  · obtain ⟨sm, ys, eD, hl, hy⟩ := p
    have hlen : ((List.range i).filter kp).length ≤ i := by
      have := List.length_filter_le kp (List.range i)
      rwa [List.length_range] at this
    refine hs i x H H' (fun y H4 => ∃ acc, H4 D = some (.lst acc) ∧ acc.length < sizeLine ∧ Pv (i + 1) (upd H4 D (.lst (acc ++ [y])))) (fun H3 => Pv (i + 1) H3) hi sm ⟨ys, eD⟩ y (fun hk z H3 s3 f3 => ?_) fun hk H3 s3 => ?_
    · have e3 : H3 D = some (.lst ys) := s3 D _ eD
      refine ⟨ys, e3, by omega, fun b o e => ?_, ys ++ [z], upd_same, ?_, fun j u h => ?_⟩
      · rw [upd_ne (ne_of_none e hD)]
        exact s3 b o (sm b o e)
      · rw [rg i, if_pos hk, List.length_append, List.length_append, hl]
        rfl
      · rw [rg i, if_pos hk]
        by_cases hj : j < ys.length
        · rw [List.getElem?_append_left hj] at h
          obtain ⟨k, ek, f⟩ := hy j u h
          exact ⟨k, by rw [List.getElem?_append_left (by omega)]; exact ek, hF k u H _ ((same_tk s3).trans (tk_lst e3)) f⟩
        · rw [List.getElem?_append_right (by omega)] at h
          have hj2 : j = ys.length := by
            have := (List.getElem?_eq_some_iff.mp h).1
            simp at this
            omega
          subst hj2
          rw [Nat.sub_self] at h
          have e : z = u := by simpa using h
          subst e
          exact ⟨i, by rw [List.getElem?_append_right (by omega), hl, Nat.sub_self]; rfl, hF i z H3 _ (tk_lst e3) f3⟩
    · have e3 : H3 D = some (.lst ys) := s3 D _ eD
      refine ⟨sm.trans s3, ys, e3, ?_, fun j u h => ?_⟩
      · rw [rg i, if_neg (by rw [hk]; exact Bool.false_ne_true), List.append_nil, hl]
      · rw [rg i, if_neg (by rw [hk]; exact Bool.false_ne_true), List.append_nil]
        obtain ⟨k, ek, f⟩ := hy j u h
        exact ⟨k, ek, hF k u H _ (same_tk s3) f⟩
  · obtain ⟨sm, ys, eD, hl, hy⟩ := p
    exact hd H ys sm eD hl hy
theorem encT_alike (a b : List Nat) : PySem.W.alike (.tuple (iD a)) (.tuple (iD b)) = true := by
  simp [PySem.W.alike, alike_ints]
theorem encT_depth (s : List Nat) : (PyData.tuple (iD s)).depth ≤ 50 := by
  simp [PyData.depth, depth_ints]
theorem IsS.dp {K : PySem.W.Frag} {H : Hp} {y : V} {s : List Nat} (h : IsS H y s) : Dp K H y (.tuple (iD s)) := by
  obtain ⟨q, rfl, h⟩ := h
  exact .tup (SqT.of h) (dpAll_iv s)
section
variable {P : Program} {w : World} {K : PySem.W.Frag} {mg : Str → Option Value} {base : Heap}
abbrev sMax : Stmt := topS 22
abbrev nMax : List Str := ["faces", "inner", "simplex", "at"]
def spMax : Sp := fun vs H Q _ => ∃ (d : Addr) (ks : List (List Nat)), vs = [.ref d] ∧ H d = some (.dT (encD ks)) ∧ (∀ s ∈ ks, s ∈ U25) ∧ ks.length ≤ 25 ∧ ∀ H' p ys, Same H H' → H' p = some (.tup ys) → Q (.ref p) H'
theorem scMax : FnScope nMax ["faces"] (defScope sMax) := ⟨rfl, rfl, rfl, by decide +kernel, rfl, by decide +kernel, by decide +kernel⟩
theorem ok_maximal {f : Addr} {fd : FuncData} (T : Txt mg) (F : Fun K "maximal" "maximal" sMax f fd) : FnOk P w K mg base CX0 1 f fd ["faces"] spMax := by
  refine F.ok scMax (fun vs H Q E h => ?_) (fun cdv A outer s0 H vs Q E hr h => ?_)
  · obtain ⟨t, s, rfl, _⟩ := h
    rfl
  obtain ⟨d, ks, rfl, ed, hU, h25, q⟩ := h
  have hu := hu_of hr
  refine ⟨_, pss_cons (ps_set (i := 1) scMax.nd rfl (.inr rfl) pe_dnewT)
    (pss_cons (ps_lock (ps_for PassesOwn.never rfl (pi_keys (pv 0)) (pg_name (i := 2) scMax.nd rfl (.inl rfl))
      (pss_one (ps_for PassesOwn.never rfl (pi_range1 (by rfl) T.range (pa_cons (pe_callB call_len_seq (by rfl) T.len PySem.boot_len (pa_cons (pv 2) pa_nil)) pa_nil)) (pg_name (i := 3) scMax.nd rfl (.inl rfl))
        (pss_one (ps_dput hu (pv 1) (pe_op op_catA (pe_slice sl_tupA (pv 2) po_none (po_some (pv 3))) (pe_slice sl_tupA (pv 2) (po_some (pe_op op_add (pv 3) pe_int)) po_none)) pe_bl rfl))))))
    (pss_one (ps_ret (pe_callTy call_tuple_of (by rfl) T.tuple (by decide +kernel) (pa_cons (pe_callB (cr_srt hr.units) (by rfl) T.sorted (by decide +kernel) (pa_cons
      (pe_lock (pe_lc (own := [("simplex", 2)]) (g := gName 2) (tt := tB (tDNotIn (tVar 2) (tVar 1))) (te := tVar 2) rfl scMax.nd (pi_keys (pv 0)) (blkOk_by (N := nMax) (sc := defScope sMax) (by decide +kernel))
        (fun _ _ _ _ _ => pg_name (i := 2) scMax.nd rfl (.inl rfl)) (fun _ _ _ _ _ => pts_one (pt_cmp (pc_dnotin hu (pv 2) (pv 1)))) (fun _ _ _ _ _ => pv 2))) pa_nil)) pa_nil))))), ?_⟩
  -- inner = {}
  refine fun m nm => ?_
  have ndm : d ≠ m := ne_of_none ed nm
  have sm0 : Same H (upd H m (.dT [])) := same_upd nm
  refine ⟨d, _, sm0 _ _ ed, True.intro, fun od => ?_⟩
  have smL : Same (upd H d (.frz od (.dT (encD ks)))) (upd (upd H m (.dT [])) d (.frz od (.dT (encD ks)))) := same_lock sm0
  have nmL : (upd H d (.frz od (.dT (encD ks)))) m = none := by rw [upd_ne ndm.symm]; exact nm
  have edL : (upd H d (.frz od (.dT (encD ks)))) d = some (.frz od (.dT (encD ks))) := upd_same
  generalize hHL : upd H d (.frz od (.dT (encD ks))) = HL at smL nmL edL
  refine ⟨_, rfl, d, od, rfl, .inr ⟨_, upd_same, for_it (walk_keysT (kvs := encD ks)) (fun i σ H' => ∃ y2 y3 ms, σ = [some (.ref d), some (.ref m), y2, y3] ∧ Same HL H' ∧ H' m = some (.dT (encD ms)) ∧ ms.length ≤ 3 * i)
    ⟨none, none, [], rfl, smL, by rw [upd_ne ndm.symm, upd_same]; rfl, Nat.zero_le _⟩ (fun i σ H' _ p => by obtain ⟨_, _, _, _, sm, _⟩ := p; exact sm _ _ edL) (fun i x σ H1 H2 hi p hy => ?_) fun σ H' p => ?_⟩⟩
  · obtain ⟨y2, y3, ms, rfl, sm, em, hl⟩ := p
    obtain ⟨rfl, k, v, p, hk, rfl, hp⟩ := hy
    obtain ⟨s, hs, rfl, rfl⟩ := encD_at hk
    rw [kk_kV] at hp
    rw [encD_len] at hi
    have hsU := hU s (List.mem_of_getElem? hs)
    have hs3 := U25_len s hsU
    refine ⟨_, rfl, p, _, rfl, .inr (SqT.of hp), _, rfl, by omega, by rw [iv_len]; omega, ?_⟩
    rw [iv_len]
    refine for_range (n := s.length) (fun j σ H' => ∃ y3 ms, σ = [some (.ref d), some (.ref m), some (.ref p), y3] ∧ Same HL H' ∧ H' p = some (.tup (iv s)) ∧ H' m = some (.dT (encD ms)) ∧ ms.length ≤ 3 * i + j) ⟨y3, ms, rfl, sm, hp, em, hl⟩ (fun j σ H' hj p2 => ?_) fun σ H' p2 => ?_
    · obtain ⟨y3, ms, rfl, sm, hp, em, hl⟩ := p2
      refine ⟨_, rfl, ?_⟩
      refine cut_use (gives_var rfl) (gives_var (by rw [Int.zero_add]; rfl)) hp hj (by omega) fun c H3 s3 e3 => ?_
      refine ⟨m, _, rfl, DPut.t (s3 _ _ em) (by rw [kk_kV]; exact e3) (by rw [encD_len]; exact small1000 (by omega)), ?_⟩
      rw [putK_encD]
      have em3 := s3 _ _ em
      refine ⟨_, _, rfl, fun b o e => ?_, ?_, upd_same, ?_⟩
      · rw [upd_ne (ne_of_none e nmL)]
        exact s3 b o (sm b o e)
      · exact tk_upd em3 (fun xs z => by cases z) _ _ (s3 _ _ hp)
      · unfold insS
        by_cases h : s.eraseIdx j ∈ ms
        · rw [if_pos h]; omega
        · rw [if_neg h, List.length_append]
          show ms.length + 1 ≤ _
          omega
    · obtain ⟨y3, ms, rfl, sm, hp, em, hl⟩ := p2
      exact ⟨_, _, _, rfl, sm, em, by omega⟩
  · obtain ⟨y2, y3, ms, rfl, sm, em, hl⟩ := p
    refine ⟨sm _ _ edL, ?_⟩
    have smA : Same H (upd H' d (.dT (encD ks))) := by
      subst hHL
      exact same_unlock ed sm
    have emA : (upd H' d (.dT (encD ks))) m = some (.dT (encD ms)) := by rw [upd_ne ndm.symm]; exact em
    generalize upd H' d (.dT (encD ks)) = H1 at smA emA
    have ed1 := smA _ _ ed
    refine ⟨d, _, ed1, True.intro, fun od2 => ?_⟩
    have e0 : (upd H1 d (.frz od2 (.dT (encD ks)))) d = some (.frz od2 (.dT (encD ks))) := upd_same
    have em0 : (upd H1 d (.frz od2 (.dT (encD ks)))) m = some (.dT (encD ms)) := by rw [upd_ne ndm.symm]; exact emA
    refine ⟨_, rfl, d, od2, rfl, .inr ⟨_, e0, fun D hD => lc_flt (walk_keysT (kvs := encD ks)) (fun i => !(decide (ks.getD i [] ∈ ms))) (fun j y H => IsS H y (ks.getD j []) ∧ ks.getD j [] ∈ ks) (fun j y H1 H2 k h => ⟨h.1.tk k, h.2⟩) (fun H1 sm => sm _ _ e0) (by rw [encD_len]; exact small1000 (by omega)) hD
      (fun j x H2 H3 R N hj sm2 _ hy r nr => ?_) fun H2 ys sm2 eD hyl hy => ?_⟩⟩
    · obtain ⟨rfl, k, v, p, hk, rfl, hp⟩ := hy
      obtain ⟨s, hs, rfl, rfl⟩ := encD_at hk
      rw [kk_kV] at hp
      have eg : ks.getD j [] = s := by rw [List.getD_eq_getElem?_getD, hs]; rfl
      rw [eg] at r nr
      refine ⟨rfl, _, rfl, _, rfl, m, _, rfl, DGet.t (sm2 _ _ em0) (by rw [kk_kV]; exact hp), _, rfl, ?_⟩
      rw [valV_encD]
      by_cases hm : s ∈ ms
      · rw [if_pos hm]
        exact iteF (nr (by simp [hm]) _ (Same.refl _))
      · rw [if_neg hm]
        exact iteT ⟨_, rfl, r (by simp [hm]) _ _ (Same.refl _) ⟨⟨p, rfl, hp⟩, List.mem_of_getElem? hs⟩⟩
    · have ed2 : H2 d = some (.frz od2 (.dT (encD ks))) := sm2 _ _ e0
      refine ⟨ed2, ?_⟩
      have nD : D ≠ d := fun z => by
        rw [z, e0] at hD
        cases hD
      have smB : Same H1 (upd H2 d (.dT (encD ks))) := same_unlock ed1 sm2
      have eDB : (upd H2 d (.dT (encD ks))) D = some (.lst ys) := by rw [upd_ne nD]; exact eD
      have tk1 : Tk H2 (upd H2 d (.dT (encD ks))) := tk_upd ed2 fun xs z => by cases z
      generalize upd H2 d (.dT (encD ks)) = H4 at smB eDB tk1
      rw [encD_len] at hyl hy
      generalize hjs : (List.range ks.length).filter (fun i => !(decide (ks.getD i [] ∈ ms))) = js at hyl hy
      have hjl : js.length ≤ ks.length := by
        rw [← hjs]
        have := List.length_filter_le (fun i => !(decide (ks.getD i [] ∈ ms))) (List.range ks.length)
        rwa [List.length_range] at this
      have hso : ∀ a ∈ js.map (fun i => ks.getD i []), ∃ x r, PyData.tuple (iD a) = .tuple (x :: r) := fun a ha => by
        obtain ⟨i, hi, rfl⟩ := List.mem_map.mp ha
        obtain ⟨j, hj⟩ := List.getElem?_of_mem hi
        obtain ⟨y, hy1⟩ : ∃ y, ys[j]? = some y := ⟨ys[j]'(by rw [hyl]; exact (List.getElem?_eq_some_iff.mp hj).1), List.getElem?_eq_getElem _⟩
        obtain ⟨i', e1, _, h2⟩ := hy j y hy1
        rw [hj] at e1
        cases e1
        have := U25_len _ (hU _ h2)
        cases hc : ks.getD i [] with
        | nil => rw [hc] at this; simp at this
        | cons n r => exact ⟨_, _, rfl⟩
      obtain ⟨bs, ⟨b1, b2, b3, b4, b5, b6⟩, fs, hperm, hsrt, hzl, hz⟩ := srt_use (K := K) (as := js.map fun i => ks.getD i []) (fun s => .tuple (iD s)) (fun y s => IsS H4 y s ∧ s ∈ ks) eDB (by rw [List.length_map]; exact hyl)
        (fun j y e => let ⟨i, e1, h1, h2⟩ := hy j y e; ⟨ks.getD i [], by rw [List.getElem?_map, e1]; rfl, h1.tk tk1, h2⟩) (fun y a h => h.1.dp) encT_alike
        hso (fun a _ => encT_depth a) (by rw [List.length_map]; exact small_line (by omega))
      refine ⟨D, bs, rfl, b1, b2, b3, b4, b5, b6, fun p np => ?_⟩
      refine ⟨p, _, rfl, .inl ⟨SqL.of upd_same, fun l nl => ?_⟩⟩
      exact q _ l _ (smA.trans (smB.trans ((same_upd np).trans (same_upd nl)))) upd_same
end
end G98
namespace G98
open PySem PySem.Spec PyProof.Rows L2
/-! ### the class of complexes -/
structure CC (K : PySem.W.Frag) (mg : Str → Option Value) (C : Addr) : Prop where
  cl : Cls K C
  nF : NoAttr K C "faces"
  nT : NoAttr K C "tops"
  ins : C8.InsC K C
  mgC : mg "Complex" = some (.ref C)
theorem ft : ¬ (("faces" : Str) = "tops") := by decide +kernel
/-- a complex stands at p, its faces ks at d -/
def CxAt (C : Addr) (H : Hp) (p d : Addr) (ks : List (List Nat)) : Prop := (∃ dx tp, H p = some (.ins C dx (putF "tops" (.ref tp) (putF "faces" (.ref d) [])))) ∧ H d = some (.dT (encD ks))
theorem CxAt.same {C : Addr} {H H' : Hp} {p d : Addr} {ks : List (List Nat)} (s : Same H H') (h : CxAt C H p d ks) : CxAt C H' p d ks := let ⟨⟨dx, tp, e⟩, e2⟩ := h; ⟨⟨dx, tp, s _ _ e⟩, s _ _ e2⟩
theorem faces_at (tp d : Addr) : (putF "tops" (.ref tp) (putF "faces" (.ref d) [])).lookup ("faces" : Str) = some (V.ref d) := by
  rw [lookup_putF, if_neg ft, lookup_putF, if_pos rfl]
/-- all but p stays -/
def SameBut (p : Addr) (H H' : Hp) : Prop := ∀ b o, b ≠ p → H b = some o → H' b = some o
theorem iota {x : V} {H : Hp} {Q : VK} (q : Q x H) : Q x H := q
section
variable {P : Program} {w : World} {K : PySem.W.Frag} {mg : Str → Option Value} {base : Heap}
abbrev sCI : Stmt := inClass (topS 23) 0
abbrev nCI : List Str := ["self", "simplices", "index", "simplex"]
def spCI (C : Addr) : Sp := fun vs H Q _ => ∃ (p t dx : Addr) (ss : List (List Nat)), vs = [.ref p, .ref t] ∧ H p = some (.ins C dx []) ∧ TS H t ss ∧ (∀ s ∈ ss, s ∈ U25) ∧ ss.length ≤ 400 ∧
  ∀ H' d ks, SameBut p H H' → CxAt C H' p d ks → Fcs ss ks → Q .non H'
theorem scCI : FnScope nCI ["self", "simplices"] (defScope sCI) := ⟨rfl, rfl, rfl, by decide +kernel, rfl, by decide +kernel, by decide +kernel⟩
theorem ok_ci {f C : Addr} {fd : FuncData} (T : Txt mg) (c : CC K mg C) (DL : Df P w K mg base 1 "is_list" ["value", "least", "most"] spIsList) (DS : Df P w K mg base 4 "is_simplex" ["value"] spIsSimplex)
    (DG : Df P w K mg base 2 "generated" ["simplices"] spGen) (DM : Df P w K mg base 1 "maximal" ["faces"] spMax) (F : Fun K "__init__" "Complex.__init__" sCI f fd) : FnOk P w K mg base CX0 5 f fd ["self", "simplices"] (spCI C) := by
  refine F.ok scCI (fun vs H Q E h => ?_) (fun cdv A outer s0 H vs Q E hr h => ?_)
  · obtain ⟨p, t, dx, ss, rfl, _⟩ := h
    rfl
  obtain ⟨p, t, dx, ss, rfl, ep, ht, hs, hl, q⟩ := h
  obtain ⟨ys, et, lv⟩ := id ht
  have hyl := lv.len
  refine ⟨_, pss_cons (ps_if (pt_not (pt_val (pe_f DL hr (pa_cons (pv 1) (pa_cons pe_int (pa_cons (pe_k T.mostF) pa_nil)))))) (pss_one ps_never) pss_nil)
    (pss_cons (ps_for PassesOwn.never rfl (pi_enumT (by rfl) T.enumerate (pa_cons (pv 1) pa_nil)) (pg_tup rfl (pgs_cons (pg_name (i := 2) scCI.nd rfl (.inl rfl)) (pgs_cons (pg_name (i := 3) scCI.nd rfl (.inl rfl)) pgs_nil)))
      (pss_one (ps_if (pt_not (pt_val (pe_f DS hr (pa_cons (pv 3) pa_nil)))) (pss_one ps_never) pss_nil)))
    (pss_cons (ps_fld (pv 0) (pe_f DG hr (pa_cons (pv 1) pa_nil)) rfl)
    (pss_one (ps_fld (pv 0) (pe_f DM hr (pa_cons (pe_fld (pv 0) rfl) pa_nil)) rfl)))), ?_⟩
  refine ⟨_, rfl, t, ys, 0, 400, rfl, et, true, ?_, ?_⟩
  · unfold inB
    rw [decide_eq_true (by omega), decide_eq_true (by omega)]
    rfl
  refine iteF ?_
  refine ⟨_, rfl, t, ys, rfl, SqT.of et, for_it (walk_enumT (xs := ys)) (fun i σ H' => ∃ y2 y3, σ = [some (.ref p), some (.ref t), y2, y3] ∧ Same H H') ⟨none, none, rfl, Same.refl _⟩ (fun i σ H' _ p => by obtain ⟨_, _, _, sm⟩ := p; exact SqT.of (sm _ _ et)) (fun i x σ H1 H2 hi pv hy => ?_) fun σ H' pv => ?_⟩
  · obtain ⟨y2, y3, rfl, sm⟩ := pv
    obtain ⟨U, x1, x2, rfl, nU, rfl, h1, h2⟩ := hy
    obtain ⟨s, es, a, rfl, ha⟩ := lv.at' i x2 h2
    cases h1
    have s1 : Same H1 (upd H1 U (.tup [.int (i : Nat), .ref a])) := same_upd nU
    refine ⟨U, _, rfl, SqT.of upd_same, rfl, _, _, rfl, _, _, rfl, rfl, ?_⟩
    refine ⟨_, rfl, a, s, rfl, s1 _ _ (sm _ _ ha), U25_asc s (hs s (List.mem_of_getElem? es)), fun H3 s3 => ⟨true, rfl, iteF ?_⟩⟩
    exact ⟨_, _, rfl, sm.trans (s1.trans s3)⟩
  · obtain ⟨y2, y3, rfl, sm⟩ := pv
    refine ⟨_, rfl, t, ss, rfl, ht.tk (same_tk sm), hs, fun H2 d ks s2 nd ed fc => ?_⟩
    have smA := sm.trans s2
    have ep2 := smA _ _ ep
    have npd : p ≠ d := ne_of_none (sm _ _ ep) nd
    refine ⟨_, rfl, p, C, dx, _, rfl, ep2, c.cl, c.nF, by show 0 < 1000; decide, ?_⟩
    have ed3 : (upd H2 p (.ins C dx (putF "faces" (.ref d) []))) d = some (.dT (encD ks)) := by rw [upd_ne npd.symm]; exact ed
    have b3 : SameBut p H (upd H2 p (.ins C dx (putF "faces" (.ref d) []))) := fun b o hb e => by rw [upd_ne hb]; exact smA _ _ e
    have ep3 : (upd H2 p (.ins C dx (putF "faces" (.ref d) []))) p = some (.ins C dx (putF "faces" (.ref d) [])) := upd_same
    generalize upd H2 p (.ins C dx (putF "faces" (.ref d) [])) = H3 at ed3 b3 ep3
    have kU := fc.in25 hs
    refine ⟨_, rfl, p, C, dx, _, _, rfl, ep3, c.cl, c.nF, by rw [lookup_putF, if_pos rfl], d, ks, rfl, ed3, kU, U25_many fc.nod kU, fun H4 tp zs s4 e4 => ?_⟩
    refine ⟨_, rfl, p, C, dx, _, rfl, s4 _ _ ep3, c.cl, c.nT, by show 1 < 1000; decide, ?_⟩
    refine q _ d ks (fun b o hb e => ?_) ⟨⟨dx, tp, upd_same⟩, ?_⟩ fc
    · rw [upd_ne hb]
      exact s4 _ _ (b3 b o hb e)
    · rw [upd_ne npd.symm]
      exact s4 _ _ ed3
abbrev sNC : Stmt := topS 24
def spNC (C : Addr) : Sp := fun vs H Q _ => ∃ p d ks, vs = [.ref p] ∧ CxAt C H p d ks ∧ Q .non H
theorem scNC : FnScope ["value"] ["value"] (defScope sNC) := ⟨rfl, rfl, rfl, by decide +kernel, rfl, by decide +kernel, by decide +kernel⟩
theorem ok_nc {f C : Addr} {fd : FuncData} (T : Txt mg) (c : CC K mg C) (F : Fun K "need_complex" "need_complex" sNC f fd) : FnOk P w K mg base CX0 1 f fd ["value"] (spNC C) := by
  refine F.ok scNC (fun vs H Q E h => ?_) (fun cdv A outer s0 H vs Q E hr h => ?_)
  · obtain ⟨p, d, ks, rfl, _⟩ := h
    rfl
  obtain ⟨p, d, ks, rfl, ⟨⟨dx, tp, e⟩, _⟩, q⟩ := h
  refine ⟨_, pss_one (ps_if (pt_not (pt_val (pe_callB (C8.call_isC c.ins) (by rfl) T.isinstance (by decide +kernel) (pa_cons (pv 0) (pa_cons (pe_glob (v := .ref C) (by rfl) c.mgC rfl) pa_nil))))) (pss_one ps_never) pss_nil), ?_⟩
  exact ⟨_, rfl, p, dx, _, rfl, e, true, rfl, iteF q⟩
/-! ### the class of filtrations -/
abbrev sIsTime : Stmt := topS 27
def spIsTime : Sp := fun vs H Q _ => ∃ i : Int, vs = [.int i] ∧ Q (.bl (inB i 0 1000)) H
theorem scIsTime : FnScope ["value"] ["value"] (defScope sIsTime) := ⟨rfl, rfl, rfl, by decide +kernel, rfl, by decide +kernel, by decide +kernel⟩
theorem ok_is_time {f : Addr} {fd : FuncData} (T : Txt mg) (D : Df P w K mg base 2 "is_in" ["value", "least", "most"] spIsIn) (F : Fun K "is_time" "is_time" sIsTime f fd) : FnOk P w K mg base CX0 3 f fd ["value"] spIsTime := by
  refine F.ok scIsTime (fun vs H Q E h => ?_) (fun cdv A outer s0 H vs Q E hr h => ?_)
  · obtain ⟨p, rfl, _⟩ := h
    rfl
  obtain ⟨i, rfl, q⟩ := h
  exact ⟨_, pss_one (ps_ret (pe_f D hr (pa_cons (pv 0) (pa_cons pe_int (pa_cons (pe_k T.mostT) pa_nil))))), _, rfl, i, 0, 1000, rfl, q⟩
end
end G98
namespace G98
open PySem PySem.Spec PyProof.Rows L2
/-! ### the parts of a simplex: [s[:at] + s[at + 1:] for at in range(len(s))] -/
def brd (s : List Nat) : List (List Nat) := (List.range s.length).map s.eraseIdx
theorem brd_len (s : List Nat) : (brd s).length = s.length := by unfold brd; rw [List.length_map, List.length_range]
theorem brd_at {s : List Nat} {i : Nat} (h : i < s.length) : (brd s)[i]? = some (s.eraseIdx i) := by
  unfold brd
  rw [List.getElem?_map, List.getElem?_range h]
  rfl
theorem mem_brd {s p : List Nat} : p ∈ brd s ↔ ∃ i, i < s.length ∧ p = s.eraseIdx i := by
  unfold brd
  rw [List.mem_map]
  constructor
  · rintro ⟨i, hi, rfl⟩
    exact ⟨i, List.mem_range.mp hi, rfl⟩
  · rintro ⟨i, hi, rfl⟩
    exact ⟨i, List.mem_range.mpr hi, rfl⟩
abbrev tPartsG (K : PySem.W.Frag) (js ja : Nat) : TE := tLc (iRng1 (tCons (tLen K js) tNil)) (gName ja) tYes (tCutG K (tVar js) (tVar ja)) [ja]
theorem parts_use {K : PySem.W.Frag} {js ja : Nat} {σ : Sl} {H : Hp} {Q : VK} {a : Addr} {s : List Nat} (h1 : σ[js]? = some (some (.ref a))) (hne : ja ≠ js) (hlt : ja < σ.length) (ha : H a = some (.tup (iv s))) (hl : s.length ≤ 1000)
    (q : ∀ (D : Addr) (H' : Hp), Same H H' → H D = none → LS H' D (brd s) → Q (.ref D) H') : tPartsG K js ja σ H Q := by
  refine ⟨_, h1, a, iv s, rfl, .inr (SqT.of ha), ((iv s).length : Int), rfl, by omega, by rw [iv_len]; omega, fun D hD => ?_⟩
  rw [iv_len]
  refine lc_map (walk_range (lo := 0) (n := s.length)) (fun i y H => IsS H y (s.eraseIdx i)) (fun i y H H' k h => h.tk k) (fun _ _ => True.intro) (small1000 hl) hD (fun i x H1 H2 R hi sm _ hy r => ?_) fun H1 ys sm eD hyl hy => ?_
  · obtain ⟨rfl, rfl⟩ := hy
    refine ⟨?_, ?_⟩
    · show ((wipe σ [ja]).set ja (some (.int (0 + (i : Int))))).set ja none = wipe σ [ja]
      show ((σ.set ja none).set ja _).set ja none = σ.set ja none
      rw [List.set_set, List.set_set]
    · refine cut_use (gives_var ?_) (gives_var (x := .int (i : Int)) ?_) (sm _ _ ha) hi hl fun c H3 s3 e3 => r _ _ s3 ⟨c, rfl, e3⟩
      · show ((σ.set ja none).set ja _)[js]? = _
        rw [List.getElem?_set_ne hne, List.getElem?_set_ne hne]
        exact h1
      · show ((σ.set ja none).set ja (some (.int (0 + (i : Int)))))[ja]? = _
        rw [Int.zero_add, List.set_set, List.getElem?_set_self hlt]
  · refine q D H1 sm hD ⟨ys, eD, by rw [hyl, brd_len], fun j y e => ?_⟩
    have hj : j < s.length := by
      have := (List.getElem?_eq_some_iff.mp e).1
      omega
    exact ⟨_, brd_at hj, hy j y e⟩
theorem parts_asg {K : PySem.W.Frag} {js ja : Nat} {σ : Sl} {H : Hp} {D : Ends} {g : TG} {a : Addr} {s : List Nat} (h1 : σ[js]? = some (some (.ref a))) (hne : ja ≠ js) (hlt : ja < σ.length) (ha : H a = some (.tup (iv s))) (hl : s.length ≤ 1000)
    (q : ∀ (D' : Addr) (H' : Hp), Same H H' → H D' = none → LS H' D' (brd s) → g (.ref D') σ H' D.nx) : tAsg (tPartsG K js ja) g D σ H := by
  show tPartsG K js ja σ H fun x H1 => g x σ H1 D.nx
  exact parts_use h1 hne hlt ha hl q
/-! ### the times of simplices -/
def clk (h : List Nat → Nat) (fs : List (List Nat)) : List (List Key × V) := encW (fs.map fun s => (s, V.int (h s : Nat)))
theorem clk_len (h : List Nat → Nat) (fs : List (List Nat)) : (clk h fs).length = fs.length := by unfold clk; rw [encW_len, List.length_map]
theorem valV_clk {h : List Nat → Nat} {fs : List (List Nat)} {s : List Nat} (hs : s ∈ fs) : valV (clk h fs) (kk s) = some (.int (h s : Nat)) := by
  unfold clk
  rw [valV_encW]
  induction fs with
  | nil => cases hs
  | cons k fs ih =>
    rw [List.map_cons]
    by_cases e : k = s
    · subst e
      rw [List.find?_cons_of_pos (by simp)]
      rfl
    · rw [List.find?_cons_of_neg (by simpa using e)]
      exact ih ((List.mem_cons.mp hs).resolve_left fun z => e z.symm)
theorem putK_clk {h : List Nat → Nat} {fs : List (List Nat)} {s : List Nat} (hs : s ∉ fs) : putK (clk h fs) (kk s) (.int (h s : Nat)) = clk h (fs ++ [s]) := by
  unfold clk
  rw [putK_encW_new, List.map_append]
  · rfl
  · intro p hp e
    obtain ⟨t, ht, e2⟩ := List.mem_map.mp hp
    rw [← e2] at e
    exact hs (e ▸ ht)
theorem clk_at {h : List Nat → Nat} {fs : List (List Nat)} {i : Nat} {k : List Key} {v : V} (e : (clk h fs)[i]? = some (k, v)) : ∃ s, fs[i]? = some s ∧ k = kk s ∧ v = .int (h s : Nat) := by
  unfold clk encW at e
  rw [List.map_map, List.getElem?_map] at e
  obtain ⟨s, hs, e⟩ := Option.map_eq_some_iff.mp e
  cases e
  exact ⟨s, hs, rfl, rfl⟩
theorem encS_len {a b : List Nat} (h : dLe (encS a) (encS b) = true) : a.length ≤ b.length := by
  have g1 : (!PySem.W.dataLt (encS b) (encS a)) = true := h
  rw [Bool.not_eq_true', encS_lt] at g1
  by_cases h : b.length = a.length
  · omega
  · rw [if_neg h] at g1
    simp at g1
    exact g1
theorem Ordd.before {ks fs : List (List Nat)} (o : Ordd ks fs) {i : Nat} {s p : List Nat} (hs : fs[i]? = some s) (hp : p ∈ fs) (hl : p.length < s.length) : p ∈ fs.take i := by
  obtain ⟨j, hj⟩ := List.getElem?_of_mem hp
  obtain ⟨l1, e1⟩ := List.getElem?_eq_some_iff.mp hs
  obtain ⟨l2, e2⟩ := List.getElem?_eq_some_iff.mp hj
  by_cases h : j < i
  · exact List.mem_of_getElem? (i := j) (by rw [List.getElem?_take, if_pos h]; exact hj)
  · exfalso
    by_cases e : i = j
    · subst e
      rw [e1] at e2
      subst e2
      omega
    · have := List.pairwise_iff_getElem.mp o.srt i j l1 l2 (by omega)
      rw [e1, e2] at this
      have := encS_len this
      omega
theorem take_new {fs : List (List Nat)} (hn : fs.Nodup) {i : Nat} {s : List Nat} (hs : fs[i]? = some s) : s ∉ fs.take i := fun h => by
  obtain ⟨j, hj⟩ := List.getElem?_of_mem h
  have lt : j < i := by
    have := (List.getElem?_eq_some_iff.mp hj).1
    rw [List.length_take] at this
    omega
  rw [List.getElem?_take, if_pos lt] at hj
  obtain ⟨l1, e1⟩ := List.getElem?_eq_some_iff.mp hs
  obtain ⟨l2, e2⟩ := List.getElem?_eq_some_iff.mp hj
  exact List.pairwise_iff_getElem.mp hn j i l2 l1 lt (e2.trans e1.symm)
/-- a set of simplices with all their parts -/
structure Cplx (ks : List (List Nat)) : Prop where
  nod : ks.Nodup
  sub : ∀ s ∈ ks, s ∈ U25
  down : ∀ s ∈ ks, 1 < s.length → ∀ p ∈ brd s, p ∈ ks
theorem U25_brd : ∀ s ∈ U25, 1 < s.length → ∀ p ∈ brd s, p ∈ pts s := by decide +kernel
theorem U25_brdlen : ∀ s ∈ U25, ∀ p ∈ brd s, p.length + 1 = s.length := by decide +kernel
theorem Fcs.cplx {ss ks : List (List Nat)} (h : Fcs ss ks) (hs : ∀ s ∈ ss, s ∈ U25) : Cplx ks := by
  refine ⟨h.nod, h.in25 hs, fun s hk hl p hp => ?_⟩
  obtain ⟨t, ht, hst⟩ := (h.mem s).mp hk
  exact (h.mem p).mpr ⟨t, ht, pts_trans t (hs t ht) s hst p (U25_brd s (h.in25 hs s hk) hl p hp)⟩
theorem Cplx.len {ks : List (List Nat)} (h : Cplx ks) : ks.length ≤ 25 := U25_many h.nod h.sub
/-- times that grow with the simplices -/
structure Tms (ks : List (List Nat)) (h : List Nat → Nat) : Prop where
  mono : ∀ s ∈ ks, 1 < s.length → ∀ p ∈ brd s, h p ≤ h s
  top : ∀ s ∈ ks, h s ≤ 1000
def tv (h : List Nat → Nat) (fs : List (List Nat)) : List V := fs.map fun s => V.int (h s : Nat)
theorem tv_len (h : List Nat → Nat) (fs : List (List Nat)) : (tv h fs).length = fs.length := List.length_map _
theorem tv_at {h : List Nat → Nat} {fs : List (List Nat)} {i : Nat} {s : List Nat} (e : fs[i]? = some s) : (tv h fs)[i]? = some (.int (h s : Nat)) := by
  unfold tv
  rw [List.getElem?_map, e]
  rfl
structure CF (K : PySem.W.Frag) (mg : Str → Option Value) (C : Addr) : Prop where
  cl : Cls K C
  nS : NoAttr K C "shape"
  nC : NoAttr K C "clock"
  nG : NoAttr K C "given"
  ins : C8.InsC K C
  mgC : mg "Filtration" = some (.ref C)
theorem sc_ne : ¬ (("clock" : Str) = "given") := by decide +kernel
def ffl (c k t : Addr) : List (Str × V) := putF "given" (.ref t) (putF "clock" (.ref k) (putF "shape" (.ref c) []))
def FtAt (C : Addr) (H : Hp) (p k : Addr) (h : List Nat → Nat) (fs : List (List Nat)) : Prop := (∃ dx c t, H p = some (.ins C dx (ffl c k t))) ∧ H k = some (.dT (clk h fs))
theorem FtAt.same {C : Addr} {H H' : Hp} {p k : Addr} {h : List Nat → Nat} {fs : List (List Nat)} (s : Same H H') (g : FtAt C H p k h fs) : FtAt C H' p k h fs := let ⟨⟨dx, c, t, e⟩, e2⟩ := g; ⟨⟨dx, c, t, s _ _ e⟩, s _ _ e2⟩
theorem clock_at (c k t : Addr) : (ffl c k t).lookup ("clock" : Str) = some (V.ref k) := by
  unfold ffl
  rw [lookup_putF, if_neg sc_ne, lookup_putF, if_pos rfl]
section
variable {P : Program} {w : World} {K : PySem.W.Frag} {mg : Str → Option Value} {base : Heap}
abbrev sFI : Stmt := inClass (topS 28) 0
abbrev nFI : List Str := ["self", "shape", "times", "simplices", "clock", "index", "simplex", "parts", "at", "part"]
def spFI (C D : Addr) : Sp := fun vs H Q _ => ∃ (p c d t dx : Addr) (ks fs : List (List Nat)) (h : List Nat → Nat), vs = [.ref p, .ref c, .ref t] ∧ H p = some (.ins C dx []) ∧ CxAt D H c d ks ∧ H t = some (.tup (tv h fs)) ∧ Cplx ks ∧ Ordd ks fs ∧ Tms ks h ∧
  ∀ H' k, SameBut p H H' → FtAt C H' p k h fs → Q .non H'
theorem scFI : FnScope nFI ["self", "shape", "times"] (defScope sFI) := ⟨rfl, rfl, rfl, by decide +kernel, rfl, by decide +kernel, by decide +kernel⟩
theorem ok_fi {f C D : Addr} {fd : FuncData} (T : Txt mg) (c : CF K mg C) (c2 : CC K mg D) (DN : Df P w K mg base 1 "need_complex" ["value"] (spNC D)) (DO : Df P w K mg base 1 "in_order" ["simplices"] spInOrder) (DL : Df P w K mg base 1 "is_list" ["value", "least", "most"] spIsList)
    (DT : Df P w K mg base 3 "is_time" ["value"] spIsTime) (F : Fun K "__init__" "Filtration.__init__" sFI f fd) : FnOk P w K mg base CX0 4 f fd ["self", "shape", "times"] (spFI C D) := by
  refine F.ok scFI (fun vs H Q E h => ?_) (fun cdv A outer s0 H vs Q E hr h => ?_)
  · obtain ⟨p, c', d, t, dx, ks, fs, h', rfl, _⟩ := h
    rfl
  obtain ⟨p, cx, d, t, dx, ks, fs, h, rfl, ep, ec, et, hk, ho, hm, q⟩ := h
  have hu := hu_of hr
  have hfl : fs.length ≤ 25 := by rw [ho.perm.length_eq]; exact hk.len
  have fnod : fs.Nodup := ho.perm.nodup_iff.mpr hk.nod
  have fmem : ∀ {s}, s ∈ fs ↔ s ∈ ks := ho.perm.mem_iff
  refine ⟨_, pss_cons (ps_expr (pe_f DN hr (pa_cons (pv 1) pa_nil)))
    (pss_cons (ps_set (i := 3) scFI.nd rfl (.inl rfl) (pe_f DO hr (pa_cons (pe_fld (pv 1) rfl) pa_nil)))
    (pss_cons (ps_if (pt_not (pt_val (pe_f DL hr (pa_cons (pv 2) (pa_cons (pe_callB call_len_seq (by rfl) T.len PySem.boot_len (pa_cons (pv 3) pa_nil)) (pa_cons (pe_callB call_len_seq (by rfl) T.len PySem.boot_len (pa_cons (pv 3) pa_nil)) pa_nil)))))) (pss_one ps_never) pss_nil)
    (pss_cons (ps_set (i := 4) scFI.nd rfl (.inr rfl) pe_dnewT)
    (pss_cons (ps_for PassesOwn.never rfl (pi_enum (by rfl) T.enumerate (pa_cons (pv 3) pa_nil)) (pg_tup rfl (pgs_cons (pg_name (i := 5) scFI.nd rfl (.inl rfl)) (pgs_cons (pg_name (i := 6) scFI.nd rfl (.inr rfl)) pgs_nil)))
      (pss_cons (ps_if (pt_not (pt_val (pe_f DT hr (pa_cons (pe_ix ix_tup (pv 2) (pv 5) (fun _ _ => rfl)) pa_nil)))) (pss_one ps_never) pss_nil)
      (pss_cons (ps_setLc (i := 7) (own := [("at", 8)]) (g := gName 8) (tt := tYes) (te := tCutG K (tVar 6) (tVar 8)) rfl scFI.nd rfl rfl (sw_true rfl rfl rfl (by decide +kernel))
        (pi_range1 (by rfl) T.range (pa_cons (pe_callB call_len_seq (by rfl) T.len PySem.boot_len (pa_cons (pv 6) pa_nil)) pa_nil)) (blkOk_by (N := nFI) (sc := defScope sFI) (by decide +kernel)) (fun _ _ _ _ _ => pg_name (i := 8) scFI.nd rfl (.inl rfl)) (fun _ _ _ _ _ => pts_nil)
        (fun _ _ _ _ _ => pe_op op_catA (pe_slice sl_tupA (pv 6) po_none (po_some (pv 8))) (pe_slice sl_tupA (pv 6) (po_some (pe_op op_add (pv 8) pe_int)) po_none)))
      (pss_cons (ps_if (PW.pt (pw_and (pt_cmpR op_gt (pe_callB call_len_seq (by rfl) T.len PySem.boot_len (pa_cons (pv 6) pa_nil)) pe_int (nomark _))
          (pw_and1 (pt_cmpR op_gt (pe_callB (cr_max rfl) (by rfl) T.max (by decide +kernel) (pa_cons
            (pe_lc (own := [("part", 9)]) (g := gName 9) (tt := tYes) (te := tDGet (tVar 4) (tVar 9)) rfl scFI.nd (pi_list (pv 7)) (blkOk_by (N := nFI) (sc := defScope sFI) (by decide +kernel)) (fun _ _ _ _ _ => pg_name (i := 9) scFI.nd rfl (.inl rfl)) (fun _ _ _ _ _ => pts_nil)
              (fun _ _ _ _ _ => pe_dget hu (pv 4) (pv 9) (by first | exact (fun _ _ => rfl) | (intros; rfl) | trivial))) pa_nil)) (pe_ix ix_tup (pv 2) (pv 5) (fun _ _ => rfl)) (nomark _))))) (pss_one ps_never) pss_nil)
      (pss_one (ps_dput hu (pv 4) (pv 6) (pe_ix ix_tup (pv 2) (pv 5) (fun _ _ => rfl)) rfl))))))
    (pss_cons (ps_fld (pv 0) (pv 1) rfl)
    (pss_cons (ps_fld (pv 0) (pv 4) rfl)
    (pss_one (ps_fld (pv 0) (pv 2) rfl)))))))), ?_⟩
  -- need_complex, in_order, is_list, clock = {}
  refine ⟨_, rfl, cx, d, ks, rfl, ec, ?_⟩
  obtain ⟨⟨dc, tp, e1⟩, e2⟩ := id ec
  refine ⟨_, rfl, cx, D, dc, _, _, rfl, e1, c2.cl, c2.nF, faces_at _ _, d, ks, rfl, e2, by have := hk.len; omega, fun H1 a fs' s1 na la o1 => ?_⟩
  have efs := o1.one ho (List.Perm.refl _)
  subst efs
  obtain ⟨ys, ea, lv⟩ := la
  have hyl := lv.len
  have et1 := s1 _ _ et
  refine ⟨_, rfl, _, rfl, a, ys, rfl, .inl (SqL.of ea), _, rfl, a, ys, rfl, .inl (SqL.of ea), t, _, _, _, rfl, et1, true, ?_, iteF ?_⟩
  · unfold inB
    rw [tv_len, hyl, decide_eq_true (by omega)]
    rfl
  refine fun m nm => ?_
  have s2 : Same H1 (upd H1 m (.dT [])) := same_upd nm
  refine ⟨_, rfl, a, ys, rfl, SqL.of (s2 _ _ ea), for_it (walk_enum (xs := ys)) (fun i σ H' => ∃ y5 y6 y7, σ = [some (.ref p), some (.ref cx), some (.ref t), some (.ref a), some (.ref m), y5, y6, y7, none, none] ∧ Same H1 H' ∧ H' m = some (.dT (clk h (fs'.take i))))
    ⟨none, none, none, rfl, s2, by rw [upd_same]; rfl⟩ (fun i σ H' _ p => by obtain ⟨_, _, _, _, sm, _⟩ := p; exact SqL.of (sm _ _ ea)) (fun i x σ H2 H3 hi pv hy => ?_) fun σ H' pv => ?_⟩
  · obtain ⟨y5, y6, y7, rfl, sm, em⟩ := pv
    obtain ⟨U, x1, x2, rfl, nU, rfl, h1, h2⟩ := hy
    obtain ⟨s, es, b, rfl, hb⟩ := lv.at' i x2 h2
    cases h1
    have hs := fmem.mp (List.mem_of_getElem? es)
    have hsU := hk.sub s hs
    have hs3 := U25_len s hsU
    have s3 : Same H2 (upd H2 U (.tup [.int (i : Nat), .ref b])) := same_upd nU
    refine ⟨U, _, rfl, SqT.of upd_same, rfl, _, _, rfl, _, _, rfl, rfl, ?_⟩
    have em3 := s3 _ _ em
    have smB := sm.trans s3
    generalize upd H2 U (.tup [.int (i : Nat), .ref b]) = H3 at s3 em3 smB
    have et3 := smB _ _ et1
    have hb3 := smB _ _ hb
    have hti := tv_at (h := h) es
    -- is_time
    refine ⟨_, rfl, _, rfl, t, _, _, _, rfl, rfl, SqT.of et3, atI_nat hti, _, rfl, true, ?_, iteF ?_⟩
    · have := hm.top s hs
      unfold inB
      rw [decide_eq_true (by omega), decide_eq_true (by omega)]
      rfl
    -- parts
    show tAsg (tPartsG K 6 8) (gName 7) _ _ _
    refine parts_asg rfl (by decide) (by show 8 < 10; decide) hb3 (by omega) fun D1 H4 s4 nD lD => ?_
    obtain ⟨zs, eD, lz⟩ := lD
    have em4 := s4 _ _ em3
    have et4 := s4 _ _ et3
    have hb4 := s4 _ _ hb3
    have fin : ∀ H5, Same H4 H5 → ∃ y5 y6 y7, ([some (.ref p), some (.ref cx), some (.ref t), some (.ref a), some (.ref m), some (.int (i : Nat)), some (.ref b), some (.ref D1), none, none] : Sl) = [some (.ref p), some (.ref cx), some (.ref t), some (.ref a), some (.ref m), y5, y6, y7, none, none] ∧ Same H1 (upd H5 m (.dT (clk h (fs'.take (i + 1))))) ∧ (upd H5 m (.dT (clk h (fs'.take (i + 1))))) m = some (.dT (clk h (fs'.take (i + 1)))) := fun H5 s5 =>
      ⟨_, _, _, rfl, fun b o e => by rw [upd_ne (ne_of_none e nm)]; exact s5 _ _ (s4 _ _ (smB b o e)), upd_same⟩
    have put : ∀ H5, Same H4 H5 → DPut H5 m (.ref b) (.int (h s : Nat)) (upd H5 m (.dT (clk h (fs'.take (i + 1))))) := fun H5 s5 => by
      have := DPut.t (k := kk s) (v := .int (h s : Nat)) (s5 _ _ em4) (by rw [kk_kV]; exact s5 _ _ hb4) (by rw [clk_len, List.length_take]; exact small1000 (by omega))
      rw [putK_clk (take_new fnod es)] at this
      rw [List.take_add_one, es]
      exact this
    have last : ∀ H5, Same H4 H5 → sDPut (tVar 4) (tVar 6) (tOp (rIxT K) (tVar 2) (tVar 5)) { nx := fun σ H' => ∃ y5 y6 y7, σ = [some (.ref p), some (.ref cx), some (.ref t), some (.ref a), some (.ref m), y5, y6, y7, none, none] ∧ Same H1 H' ∧ H' m = some (.dT (clk h (fs'.take (i + 1)))), rt := Q, bk := fun _ _ => False, ct := fun _ _ => False }
        [some (.ref p), some (.ref cx), some (.ref t), some (.ref a), some (.ref m), some (.int (i : Nat)), some (.ref b), some (.ref D1), none, none] H5 := fun H5 s5 => by
      exact ⟨_, rfl, _, rfl, t, _, _, _, rfl, rfl, SqT.of (s5 _ _ et4), atI_nat hti, _, rfl, _, rfl, m, _, rfl, put H5 s5, fin H5 s5⟩
    refine ⟨_, rfl, b, iv s, rfl, .inr (SqT.of hb4), _, _, rfl, rfl, _, rfl, ?_⟩
    refine ite2 (fun e => ?_) (fun e => iteF (last H4 (Same.refl _)))
    have h1s : 1 < s.length := by
      have := of_decide_eq_true e
      rw [iv_len] at this
      omega
    have hzl := lz.len
    rw [brd_len] at hzl
    refine ⟨_, rfl, D1, rfl, ⟨_, SqL.of eD⟩, fun D2 hD2 => lc_map (walk_list (xs := zs)) (fun j y H => y = .int (h (s.eraseIdx j) : Nat)) (fun j y H1 H2 k h => h) (fun H5 s5 => SqL.of (s5 _ _ eD)) (small1000 (by omega)) hD2 (fun j x H5 H6 R hj s5 _ hy r => ?_) fun H5 us s5 e5 hul hus => ?_⟩
    · obtain ⟨rfl, hx⟩ := hy
      obtain ⟨z, ez, a2, rfl, ha2⟩ := lz.at' j x hx
      rw [brd_at (by omega)] at ez
      cases ez
      have hin : s.eraseIdx j ∈ fs'.take i := by
        have hb2 : s.eraseIdx j ∈ brd s := mem_brd.mpr ⟨j, by omega, rfl⟩
        refine ho.before es (fmem.mpr (hk.down s hs h1s _ hb2)) ?_
        have := U25_brdlen s hsU _ hb2
        omega
      refine ⟨rfl, _, rfl, _, rfl, m, _, rfl, ?_, r _ _ (Same.refl _) rfl⟩
      rw [← valV_clk (h := h) hin]
      exact DGet.t (s5 _ _ em4) (by rw [kk_kV]; exact s5 _ _ ha2)
    · have eus : us = ((brd s).map fun z => (h z : Int)).map V.int := by
        refine List.ext_getElem? fun j => ?_
        rw [List.map_map, List.getElem?_map]
        by_cases hj : j < s.length
        · rw [brd_at hj]
          have : us[j]? = some (us[j]'(by omega)) := List.getElem?_eq_getElem _
          rw [this, hus j _ this]
          rfl
        · rw [List.getElem?_eq_none (by omega), List.getElem?_eq_none (by rw [brd_len]; omega)]
          rfl
      refine ⟨D2, _, rfl, SqL.of (by rw [e5, eus]), by rw [List.length_map, brd_len]; omega, fun mx hmx hle => ?_⟩
      obtain ⟨z, hz, rfl⟩ := List.mem_map.mp hmx
      have hle2 := hm.mono s hs h1s z hz
      refine ⟨_, rfl, _, rfl, t, _, _, _, rfl, rfl, SqT.of (s5 _ _ et4), atI_nat hti, _, _, rfl, rfl, _, rfl, ?_⟩
      rw [decide_eq_false (by omega)]
      exact iteF (last H5 s5)
  · obtain ⟨y5, y6, y7, rfl, sm, em⟩ := pv
    rw [hyl, List.take_length] at em
    have ep' := sm _ _ (s1 _ _ ep)
    have npm : p ≠ m := ne_of_none (s1 _ _ ep) nm
    have sA := s1.trans sm
    refine ⟨_, rfl, _, rfl, p, C, dx, _, rfl, ep', c.cl, c.nS, by show 0 < 1000; decide, ?_⟩
    refine ⟨_, rfl, _, rfl, p, C, dx, _, rfl, upd_same, c.cl, c.nC, by show 1 < 1000; decide, ?_⟩
    refine ⟨_, rfl, _, rfl, p, C, dx, _, rfl, upd_same, c.cl, c.nG, by show 2 < 1000; decide, ?_⟩
    refine q _ m (fun b o hb e => ?_) ⟨⟨dx, cx, t, upd_same⟩, ?_⟩
    · rw [upd_ne hb, upd_ne hb, upd_ne hb]
      exact sA _ _ e
    · rw [upd_ne npm.symm, upd_ne npm.symm, upd_ne npm.symm]
      exact em
end
end G98
namespace G98
open PySem PySem.Spec PyProof.Rows L2
def encT3 (h : List Nat → Nat) (s : List Nat) : PyData := .tuple [.int (h s : Nat), .int (s.length : Int), .tuple (iD s)]
theorem encT3_alike (h : List Nat → Nat) (a b : List Nat) : PySem.W.alike (encT3 h a) (encT3 h b) = true := by
  unfold encT3
  simp [PySem.W.alike, PySem.W.alikeAll, alike_ints]
theorem encT3_depth (h : List Nat → Nat) (s : List Nat) : (encT3 h s).depth ≤ 50 := by
  unfold encT3
  simp [PyData.depth, PyData.depthAll, depth_ints]
theorem encT3_le {h : List Nat → Nat} {a b : List Nat} (g : dLe (encT3 h a) (encT3 h b) = true) : h a ≤ h b := by
  have g1 : (!PySem.W.dataLt (encT3 h b) (encT3 h a)) = true := g
  rw [Bool.not_eq_true'] at g1
  unfold encT3 at g1
  by_cases e : h b < h a
  · rw [PySem.W.dataLt_tuple, PySem.W.dataLt_all_no (by simp [PySem.W.alike]) (by simp [PyData.eqv]; omega), PySem.W.dataLt_int] at g1
    simp at g1
    omega
  · omega
/-- a triple of a time, a length and a simplex -/
def IsT3 (h : List Nat → Nat) (H : Hp) (y : V) (s : List Nat) : Prop := ∃ q q2, y = .ref q ∧ H q = some (.tup [.int (h s : Nat), .int (s.length : Int), .ref q2]) ∧ H q2 = some (.tup (iv s))
theorem IsT3.tk {h : List Nat → Nat} {H H' : Hp} {y : V} {s : List Nat} (k : Tk H H') (g : IsT3 h H y s) : IsT3 h H' y s := let ⟨q, q2, e, h1, h2⟩ := g; ⟨q, q2, e, k _ _ h1, k _ _ h2⟩
theorem IsT3.dp {K : PySem.W.Frag} {h : List Nat → Nat} {H : Hp} {y : V} {s : List Nat} (g : IsT3 h H y s) : Dp K H y (encT3 h s) := by
  obtain ⟨q, q2, rfl, h1, h2⟩ := g
  exact .tup (SqT.of h1) (.cons (.int _) (.cons (.int _) (.cons (.tup (SqT.of h2) (dpAll_iv s)) .nil)))
section
variable {P : Program} {w : World} {K : PySem.W.Frag} {mg : Str → Option Value} {base : Heap}
abbrev sOO : Stmt := topS 30
abbrev nOO : List Str := ["filtration", "row", "one", "time"]
def spOO (C : Addr) : Sp := fun vs H Q _ => ∃ (p k : Addr) (fs : List (List Nat)) (h : List Nat → Nat), vs = [.ref p] ∧ FtAt C H p k h fs ∧ fs.length ≤ 1000 ∧ ∀ H' a L, Same H H' → H a = none → LS H' a L → L.Perm fs → (L.Pairwise fun x y => h x ≤ h y) → Q (.ref a) H'
theorem scOO : FnScope nOO ["filtration"] (defScope sOO) := ⟨rfl, rfl, rfl, by decide +kernel, rfl, by decide +kernel, by decide +kernel⟩
theorem ok_oo {f C : Addr} {fd : FuncData} (T : Txt mg) (c : CF K mg C) (F : Fun K "own_order" "own_order" sOO f fd) : FnOk P w K mg base CX0 1 f fd ["filtration"] (spOO C) := by
  refine F.ok scOO (fun vs H Q E h => ?_) (fun cdv A outer s0 H vs Q E hr h => ?_)
  · obtain ⟨p, k, fs, h', rfl, _⟩ := h
    rfl
  obtain ⟨p, d, fs, h, rfl, ⟨⟨dx, cc, tt, ep⟩, ed⟩, hl, q⟩ := h
  refine ⟨_, pss_one (ps_ret (pe_lc (own := [("row", 1)]) (g := gName 1) (tt := tYes) (te := tOp (rIxT K) (tVar 1) (tC (.int 2))) rfl scOO.nd
    (pi_list (pe_callB (cr_srt hr.units) (by rfl) T.sorted (by decide +kernel) (pa_cons (pe_lock
      (pe_lc (own := [("one", 2), ("time", 3)]) (g := gTup K 2 (gCons (gName 2) (gCons (gName 3) gNil))) (tt := tYes) (te := tTup (tCons (tVar 3) (tCons (tLen K 2) (tCons (tVar 2) tNil)))) rfl scOO.nd (pi_itemsP (pe_fld (pv 0) rfl)) (blkOk_by (N := nOO) (sc := defScope sOO) (by decide +kernel))
        (fun _ _ _ _ _ => pg_tup rfl (pgs_cons (pg_name (i := 2) scOO.nd rfl (.inl rfl)) (pgs_cons (pg_name (i := 3) scOO.nd rfl (.inl rfl)) pgs_nil))) (fun _ _ _ _ _ => pts_nil)
        (fun _ _ _ _ _ => pe_tup (pa_cons (pv 3) (pa_cons (pe_callB call_len_seq (by rfl) T.len PySem.boot_len (pa_cons (pv 2) pa_nil)) (pa_cons (pv 2) pa_nil)))))) pa_nil)))
    (blkOk_by (N := nOO) (sc := defScope sOO) (by decide +kernel)) (fun _ _ _ _ _ => pg_name (i := 1) scOO.nd rfl (.inl rfl)) (fun _ _ _ _ _ => pts_nil) (fun _ _ _ _ _ => pe_ix ix_tup (pv 1) pe_int (fun _ _ => rfl)))), ?_⟩
  refine ⟨d, _, ed, True.intro, fun od => ?_⟩
  have npd : p ≠ d := ne_of ep ed (fun z => by cases z)
  have e0 : (upd H d (.frz od (.dT (clk h fs)))) d = some (.frz od (.dT (clk h fs))) := upd_same
  have ep0 : (upd H d (.frz od (.dT (clk h fs)))) p = some (.ins C dx (ffl cc d tt)) := by rw [upd_ne npd]; exact ep
  refine ⟨_, rfl, p, C, dx, _, _, rfl, ep0, c.cl, c.nC, clock_at _ _ _, d, od, _, rfl, e0, fun D hD => lc_map (walk_itemsP (kvs := clk h fs)) (fun j y H => ∃ s, fs[j]? = some s ∧ IsT3 h H y s) (fun j y H1 H2 k g => let ⟨s, e, g⟩ := g; ⟨s, e, g.tk k⟩) (fun H1 sm => sm _ _ e0) (by rw [clk_len]; exact small1000 hl) hD
      (fun j x H1 H2 R hj sm _ hy r => ?_) fun H1 ys sm eD hyl hy => ?_⟩
  · obtain ⟨U, q1, k, v, hk, hq1, rfl, nU, rfl⟩ := hy
    obtain ⟨s, hs, rfl, rfl⟩ := clk_at hk
    rw [kk_kV] at hq1
    have s1 : Same H1 (upd H1 U (.tup [.ref q1, .int (h s : Nat)])) := same_upd nU
    refine ⟨U, _, rfl, SqT.of upd_same, rfl, _, _, rfl, _, _, rfl, rfl, rfl, _, rfl, _, rfl, q1, _, rfl, .inr (SqT.of (s1 _ _ hq1)), _, rfl, by show 3 ≤ sizeLine; decide, fun u nu => r _ _ (s1.trans (same_upd nu)) ⟨s, hs, u, q1, rfl, ?_, ?_⟩⟩
    · rw [upd_same, iv_len]
    · exact (same_upd nu) _ _ (s1 _ _ hq1)
  · have ed1 : H1 d = some (.frz od (.dT (clk h fs))) := sm _ _ e0
    refine ⟨ed1, ?_⟩
    have nD : D ≠ d := fun z => by
      rw [z, e0] at hD
      cases hD
    have smA : Same H (upd H1 d (.dT (clk h fs))) := same_unlock ed sm
    have eD' : (upd H1 d (.dT (clk h fs))) D = some (.lst ys) := by rw [upd_ne nD]; exact eD
    have tk1 : Tk H1 (upd H1 d (.dT (clk h fs))) := tk_upd ed1 fun xs z => by cases z
    generalize upd H1 d (.dT (clk h fs)) = H2 at eD' tk1 smA
    rw [clk_len] at hyl
    obtain ⟨bs, ⟨b1, b2, b3, b4, b5, b6⟩, L, hperm, hsrt, hzl, hz⟩ := srt_use (K := K) (as := fs) (encT3 h) (IsT3 h H2) eD' hyl (fun j y e => let ⟨s, e1, g⟩ := hy j y e; ⟨s, e1, g.tk tk1⟩) (fun y a g => g.dp) (encT3_alike h) (fun a _ => ⟨_, _, rfl⟩) (fun a _ => encT3_depth h a) (small_line hl)
    refine ⟨D, bs, rfl, b1, b2, b3, b4, b5, b6, fun u nu => ?_⟩
    generalize hzs : srtd bs = zs at hzl hz
    have hzs2 : (bs.mergeSort (PySem.W.dataLe false Prod.snd)).map Prod.fst = zs := hzs
    rw [hzs2]
    have smB : Same H2 (upd H2 u (.lst zs)) := same_upd nu
    have lL : L.length ≤ 1000 := by rw [hperm.length_eq]; exact hl
    refine ⟨u, rfl, ⟨_, SqL.of upd_same⟩, fun D2 hD2 => lc_map (walk_list (xs := zs)) (fun j y H => ∃ s, L[j]? = some s ∧ IsS H y s) (fun j y H1 H2 k g => let ⟨s, e, g⟩ := g; ⟨s, e, g.tk k⟩) (fun H3 sm3 => SqL.of (sm3 _ _ upd_same)) (small1000 (by omega)) hD2
      (fun j x H3 H4 R hj sm3 _ hy r => ?_) fun H3 us sm3 eD3 hul hu => ?_⟩
    · obtain ⟨rfl, hx⟩ := hy
      obtain ⟨s, es, q1, q2, rfl, h1, h2⟩ := hz j x hx
      have t3 : Tk H2 H4 := (same_tk smB).trans (same_tk sm3)
      exact ⟨rfl, _, rfl, q1, _, 2, .ref q2, rfl, rfl, SqT.of (t3 _ _ h1), atI_nat (j := 2) rfl, r _ _ (Same.refl _) ⟨s, es, q2, rfl, t3 _ _ h2⟩⟩
    · have smC : Same H H3 := smA.trans (smB.trans sm3)
      have hD2n : H D2 = none := (smA.trans smB).free hD2
      exact q H3 D2 L smC hD2n ⟨us, eD3, LV.of hul (by omega) hu⟩ hperm (hsrt.imp encT3_le)
abbrev sNF : Stmt := topS 29
def spNF (C : Addr) : Sp := fun vs H Q _ => ∃ p k h fs, vs = [.ref p] ∧ FtAt C H p k h fs ∧ Q .non H
theorem scNF : FnScope ["value"] ["value"] (defScope sNF) := ⟨rfl, rfl, rfl, by decide +kernel, rfl, by decide +kernel, by decide +kernel⟩
theorem ok_nf {f C : Addr} {fd : FuncData} (T : Txt mg) (c : CF K mg C) (F : Fun K "need_filtration" "need_filtration" sNF f fd) : FnOk P w K mg base CX0 1 f fd ["value"] (spNF C) := by
  refine F.ok scNF (fun vs H Q E h => ?_) (fun cdv A outer s0 H vs Q E hr h => ?_)
  · obtain ⟨p, d, ks, fs, rfl, _⟩ := h
    rfl
  obtain ⟨p, d, ks, fs, rfl, ⟨⟨dx, c1, t1, e⟩, _⟩, q⟩ := h
  refine ⟨_, pss_one (ps_if (pt_not (pt_val (pe_callB (C8.call_isC c.ins) (by rfl) T.isinstance (by decide +kernel) (pa_cons (pv 0) (pa_cons (pe_glob (v := .ref C) (by rfl) c.mgC rfl) pa_nil))))) (pss_one ps_never) pss_nil), ?_⟩
  exact ⟨_, rfl, p, dx, _, rfl, e, true, rfl, iteF q⟩
abbrev sND : Stmt := topS 41
def spND : Sp := fun vs H Q _ => ∃ i lo : Int, vs = [.int i, .int lo] ∧ inB i lo 7 = true ∧ Q .non H
theorem scND : FnScope ["degree", "least"] ["degree", "least"] (defScope sND) := ⟨rfl, rfl, rfl, by decide +kernel, rfl, by decide +kernel, by decide +kernel⟩
theorem ok_nd {f : Addr} {fd : FuncData} (T : Txt mg) (D : Df P w K mg base 2 "is_in" ["value", "least", "most"] spIsIn) (F : Fun K "need_degree" "need_degree" sND f fd) : FnOk P w K mg base CX0 3 f fd ["degree", "least"] spND := by
  refine F.ok scND (fun vs H Q E h => ?_) (fun cdv A outer s0 H vs Q E hr h => ?_)
  · obtain ⟨p, d, rfl, _⟩ := h
    rfl
  obtain ⟨i, lo, rfl, hb, q⟩ := h
  refine ⟨_, pss_one (ps_if (pt_not (pt_val (pe_f D hr (pa_cons (pv 0) (pa_cons (pv 1) (pa_cons pe_int pa_nil)))))) (pss_one ps_never) pss_nil), ?_⟩
  exact ⟨_, rfl, _, rfl, i, lo, 7, rfl, true, congrArg V.bl hb, iteF q⟩
end
end G98
namespace G98
open PySem PySem.Spec PyProof.Rows L2
/-- a dict comprehension over a walk -/
theorem dc_it {J : It} {n : Nat} {G : Hp → Prop} {Y : Nat → Hp → V → Hp → Prop} (w : Walk J n G Y) {g : TG} {tt : TT} {tk tv : TE} {vs : List Nat} {σ : Sl} {H1 : Hp} {D : Addr} {Qd : Hp → Prop} {o0 : HO} (Pv : Nat → Hp → Prop) (h0 : Pv 0 (upd H1 D o0)) (hG : ∀ i H, i ≤ n → Pv i H → G H)
    (hs : ∀ i x H H', i < n → Pv i H → Y i H x H' → g x (wipe σ vs) H' fun σ2 H2 => wipe σ2 vs = wipe σ vs ∧ tt σ2 H2 (dcTurn D tk tv (Pv (i + 1)) σ2)) (hd : ∀ H, Pv n H → Qd H) :
    ∃ W : Nat → Nat → Hp → Prop, (∃ m, W 0 m (upd H1 D o0)) ∧ ∀ i m H, W i m H →
      (J.stop i H ∧ Qd H) ∨ (J.go i H ∧ ∃ Nx : Hp → Prop, (∀ H', Nx H' → ∃ m', m' < m ∧ W (i + 1) m' H') ∧ ∀ x H', J.yld i H x H' → g x (wipe σ vs) H' fun σ2 H2 => wipe σ2 vs = wipe σ vs ∧ tt σ2 H2 (dcTurn D tk tv Nx σ2)) := by
  refine ⟨fun i m H => m = n - i ∧ i ≤ n ∧ Pv i H, ⟨n, by simp, Nat.zero_le _, h0⟩, ?_⟩
  rintro i m H ⟨rfl, hi, p⟩
  have q := hG i H hi p
  by_cases hlt : i < n
  · refine .inr ⟨w.goes i H hlt q, Pv (i + 1), fun H' p' => ⟨n - (i + 1), by omega, rfl, hlt, p'⟩, fun x H' y => hs i x H H' hlt p (w.yields i H x H' hlt q y)⟩
  · have e : i = n := by omega
    subst e
    exact .inl ⟨w.stops H q, hd H p⟩
theorem idx_at {L : List (List Nat)} (hn : L.Nodup) {i : Nat} {s : List Nat} (h : L[i]? = some s) : L.idxOf s = i := by
  obtain ⟨l, e⟩ := List.getElem?_eq_some_iff.mp h
  have l2 : L.idxOf s < L.length := List.idxOf_lt_length_of_mem (List.mem_of_getElem? h)
  have e2 : L[L.idxOf s] = s := List.getElem_idxOf l2
  by_cases hlt : L.idxOf s < i
  · exact absurd (e2.trans e.symm) (List.pairwise_iff_getElem.mp hn _ _ l2 l hlt)
  · by_cases hgt : i < L.idxOf s
    · exact absurd (e.trans e2.symm) (List.pairwise_iff_getElem.mp hn _ _ l l2 hgt)
    · omega
/-- the column of s as a number -/
def mask (L : List (List Nat)) (s : List Nat) : Nat := if 1 < s.length then ((brd s).map fun p => 2 ^ L.idxOf p).sum else 0
theorem sum_cast : ∀ l : List Nat, (l.map fun n : Nat => (n : Int)).sum = ((l.sum : Nat) : Int)
  | [] => rfl
  | a :: l => by rw [List.map_cons, List.sum_cons, sum_cast l, List.sum_cons, Int.natCast_add]
section
variable {P : Program} {w : World} {K : PySem.W.Frag} {mg : Str → Option Value} {base : Heap}
abbrev sMO : Stmt := topS 43
abbrev nMO : List Str := ["order", "places", "found", "simplex", "parts", "at", "part"]
def spMO : Sp := fun vs H Q _ => ∃ (a : Addr) (L : List (List Nat)), vs = [.ref a] ∧ LS H a L ∧ Cplx L ∧ ∀ H' b, Same H H' → H b = none → H' b = some (.lst (L.map fun s => V.int (mask L s : Nat))) → Q (.ref b) H'
theorem scMO : FnScope nMO ["order"] (defScope sMO) := ⟨rfl, rfl, rfl, by decide +kernel, rfl, by decide +kernel, by decide +kernel⟩
theorem ok_mo {f : Addr} {fd : FuncData} (T : Txt mg) (F : Fun K "masks_of" "masks_of" sMO f fd) : FnOk P w K mg base CX0 1 f fd ["order"] spMO := by
  refine F.ok scMO (fun vs H Q E h => ?_) (fun cdv A outer s0 H vs Q E hr h => ?_)
  · obtain ⟨a, L, rfl, _⟩ := h
    rfl
  obtain ⟨a, L, rfl, ⟨ys, ea, lv⟩, hk, q⟩ := h
  have hu := hu_of hr
  have hL := hk.len
  have hyl := lv.len
  refine ⟨_, pss_cons (ps_set (i := 1) scMO.nd rfl (.inr rfl) (pe_dcP (o0 := .dT []) (own := [("at", 5), ("simplex", 3)]) (g := gTup K 2 (gCons (gName 5) (gCons (gName 3) gNil))) (tt := tYes) (tk := tVar 3) (tv := tVar 5) hu (.inr rfl) rfl scMO.nd
      (pi_enum (by rfl) T.enumerate (pa_cons (pv 0) pa_nil)) (blkOk_by (N := nMO) (sc := defScope sMO) (by decide +kernel)) (fun _ _ _ _ _ => pg_tup rfl (pgs_cons (pg_name (i := 5) scMO.nd rfl (.inl rfl)) (pgs_cons (pg_name (i := 3) scMO.nd rfl (.inl rfl)) pgs_nil)))
      (fun _ _ _ _ _ => pts_nil) (fun _ _ _ _ _ => pv 3) (fun _ _ _ _ _ => pv 5)))
    (pss_cons (ps_set (i := 2) scMO.nd rfl (.inl rfl) (pe_lst pa_nil))
    (pss_cons (ps_for PassesOwn.never rfl (pi_list (pv 0)) (pg_name (i := 3) scMO.nd rfl (.inr rfl))
      (pss_cons (ps_setLc (i := 4) (own := [("at", 5)]) (g := gName 5) (tt := tYes) (te := tCutG K (tVar 3) (tVar 5)) rfl scMO.nd rfl rfl (sw_true rfl rfl rfl (by decide +kernel))
        (pi_range1 (by rfl) T.range (pa_cons (pe_callB call_len_seq (by rfl) T.len PySem.boot_len (pa_cons (pv 3) pa_nil)) pa_nil)) (blkOk_by (N := nMO) (sc := defScope sMO) (by decide +kernel)) (fun _ _ _ _ _ => pg_name (i := 5) scMO.nd rfl (.inl rfl)) (fun _ _ _ _ _ => pts_nil)
        (fun _ _ _ _ _ => pe_op op_catA (pe_slice sl_tupA (pv 3) po_none (po_some (pv 5))) (pe_slice sl_tupA (pv 3) (po_some (pe_op op_add (pv 5) pe_int)) po_none)))
      (pss_one (ps_expr (pe_bm PySem.F.plainAttrs_list PySem.F.slot_list_append PySem.F.type_list_append mt_append (pv 2) (pa_cons
        (pe_ifExp (pt_cmpR op_gt (pe_callB call_len_seq (by rfl) T.len PySem.boot_len (pa_cons (pv 3) pa_nil)) pe_int (nomark _))
          (pe_callB (cr_sum rfl) (by rfl) T.sum (by decide +kernel) (pa_cons
            (pe_lc (own := [("part", 6)]) (g := gName 6) (tt := tYes) (te := tOp (fun x y H Q => ∃ k : Nat, x = .int 1 ∧ y = .int (k : Int) ∧ k ≤ 134217727 ∧ Q (.int (2 ^ k)) H) (tC (.int 1)) (tDGet (tVar 1) (tVar 6))) rfl scMO.nd (pi_list (pv 4)) (blkOk_by (N := nMO) (sc := defScope sMO) (by decide +kernel)) (fun _ _ _ _ _ => pg_name (i := 6) scMO.nd rfl (.inl rfl)) (fun _ _ _ _ _ => pts_nil)
              (fun _ _ _ _ _ => pe_op op_oneShl pe_int (pe_dget hu (pv 1) (pv 6) (by first | exact (fun _ _ => rfl) | (intros; rfl) | trivial)))) pa_nil)) pe_int) pa_nil))))))
    (pss_one (ps_ret (pv 2))))), ?_⟩
  refine ⟨_, rfl, a, ys, rfl, SqL.of ea, fun m nm => dc_it (walk_enum (xs := ys)) (fun i H' => Same H H' ∧ H' m = some (.dT (clk L.idxOf (L.take i)))) ⟨same_upd nm, upd_same⟩ (fun i H' _ p => SqL.of (p.1 _ _ ea)) (fun i x H1 H2 hi p hy => ?_) fun H1 p => ?_⟩
  · obtain ⟨sm, em⟩ := p
    obtain ⟨U, x1, x2, rfl, nU, rfl, h1, h2⟩ := hy
    obtain ⟨s, es, b, rfl, hb⟩ := lv.at' i x2 h2
    cases h1
    have s3 : Same H1 (upd H1 U (.tup [.int (i : Nat), .ref b])) := same_upd nU
    refine ⟨U, _, rfl, SqT.of upd_same, rfl, _, _, rfl, _, _, rfl, rfl, rfl, ?_⟩
    refine ⟨_, rfl, _, rfl, ?_⟩
    have em3 := s3 _ _ em
    have put := DPut.t (k := kk s) (v := .int (i : Nat)) em3 (by rw [kk_kV]; exact s3 _ _ (sm _ _ hb)) (by rw [clk_len, List.length_take]; exact small1000 (by omega))
    have ei := idx_at hk.nod es
    have e2 : putK (clk L.idxOf (L.take i)) (kk s) (.int (i : Nat)) = clk L.idxOf (L.take (i + 1)) := by
      have := putK_clk (h := L.idxOf) (take_new hk.nod es)
      rw [ei] at this
      rw [this, List.take_add_one, es]
      rfl
    rw [e2] at put
    exact ⟨_, put, fun b o e => by rw [upd_ne (ne_of_none e nm)]; exact s3 _ _ (sm _ _ e), upd_same⟩
  · obtain ⟨sm, em⟩ := p
    rw [hyl, List.take_length] at em
    refine ⟨by show 0 ≤ sizeLine; decide, fun c nc => ?_⟩
    have hcn : H c = none := sm.free nc
    have s1 : Same H1 (upd H1 c (.lst [])) := same_upd nc
    refine ⟨_, rfl, a, rfl, ⟨_, SqL.of (s1 _ _ (sm _ _ ea))⟩, for_list (xs := ys) (fun i σ H' => ∃ y3 y4, σ = [some (.ref a), some (.ref m), some (.ref c), y3, y4, none, none] ∧ Same H1 H' ∧ H' c = some (.lst ((L.take i).map fun s => V.int (mask L s : Nat))))
      ⟨none, none, rfl, s1, upd_same⟩ (fun i σ H' _ p => by obtain ⟨_, _, _, s2, _⟩ := p; exact SqL.of (s2 _ _ (sm _ _ ea))) (fun i x σ H2 hx p => ?_) fun σ H2 p => ?_⟩
    · obtain ⟨y3, y4, rfl, s2, ec⟩ := p
      obtain ⟨s, es, b, rfl, hb⟩ := lv.at' i x hx
      have hsL := List.mem_of_getElem? es
      have hsU := hk.sub s hsL
      have hs3 := U25_len s hsU
      have hb2 := s2 _ _ (sm _ _ hb)
      have em2 := s2 _ _ em
      show tAsg (tPartsG K 3 5) (gName 4) _ _ _
      refine parts_asg rfl (by decide) (by show 5 < 7; decide) hb2 (by omega) fun D1 H4 s4 nD lD => ?_
      obtain ⟨zs, eD, lz⟩ := lD
      have hzl := lz.len
      rw [brd_len] at hzl
      have em4 := s4 _ _ em2
      have ec4 := s4 _ _ ec
      have hil : i < L.length := (List.getElem?_eq_some_iff.mp es).1
      have put : ∀ H5, Same H4 H5 → ∃ y3 y4, ([some (.ref a), some (.ref m), some (.ref c), some (.ref b), some (.ref D1), none, none] : Sl) = [some (.ref a), some (.ref m), some (.ref c), y3, y4, none, none] ∧ Same H1 (upd H5 c (.lst (((L.take i).map fun s => V.int (mask L s : Nat)) ++ [V.int (mask L s : Nat)]))) ∧
          (upd H5 c (.lst (((L.take i).map fun s => V.int (mask L s : Nat)) ++ [V.int (mask L s : Nat)]))) c = some (.lst ((L.take (i + 1)).map fun s => V.int (mask L s : Nat))) := fun H5 s5 => by
        refine ⟨_, _, rfl, fun b o e => by rw [upd_ne (ne_of_none e nc)]; exact s5 _ _ (s4 _ _ (s2 _ _ e)), ?_⟩
        rw [upd_same, List.take_add_one, es, List.map_append]
        rfl
      have hlen : ((L.take i).map fun s => V.int (mask L s : Nat)).length < sizeLine := by
        rw [List.length_map, List.length_take]
        exact small1000 (by omega)
      refine ⟨_, rfl, .inl ⟨rfl, _, SqL.of ec4⟩, _, rfl, b, iv s, rfl, .inr (SqT.of (s4 _ _ hb2)), _, _, rfl, rfl, _, rfl, ?_⟩
      refine ite2 (fun e => ?_) (fun e => ?_)
      · have h1s : 1 < s.length := by
          have := of_decide_eq_true e
          rw [iv_len] at this
          omega
        refine ⟨_, rfl, D1, rfl, ⟨_, SqL.of eD⟩, fun D2 hD2 => lc_map (walk_list (xs := zs)) (fun j y H => y = .int ((2 ^ L.idxOf (s.eraseIdx j) : Nat) : Int)) (fun j y H1 H2 k h => h) (fun H5 s5 => SqL.of (s5 _ _ eD)) (small1000 (by omega)) hD2 (fun j x H5 H6 R hj s5 _ hy r => ?_) fun H5 us s5 e5 hul hus => ?_⟩
        · obtain ⟨rfl, hx⟩ := hy
          obtain ⟨z, ez, a2, rfl, ha2⟩ := lz.at' j x hx
          rw [brd_at (by omega)] at ez
          cases ez
          have hin : s.eraseIdx j ∈ L := hk.down s hsL h1s _ (mem_brd.mpr ⟨j, by omega, rfl⟩)
          have hlt := List.idxOf_lt_length_of_mem hin
          refine ⟨rfl, _, rfl, _, rfl, m, _, rfl, ?_, L.idxOf (s.eraseIdx j), rfl, rfl, by omega, r _ _ (Same.refl _) ?_⟩
          · rw [← valV_clk (h := L.idxOf) hin]
            exact DGet.t (s5 _ _ em4) (by rw [kk_kV]; exact s5 _ _ ha2)
          · rw [Int.natCast_pow]
            rfl
        · have eus : us = (((brd s).map fun p => 2 ^ L.idxOf p).map fun n : Nat => (n : Int)).map V.int := by
            refine List.ext_getElem? fun j => ?_
            rw [List.map_map, List.map_map, List.getElem?_map]
            by_cases hj : j < s.length
            · rw [brd_at hj]
              have : us[j]? = some (us[j]'(by omega)) := List.getElem?_eq_getElem _
              rw [this, hus j _ this]
              rfl
            · rw [List.getElem?_eq_none (by omega), List.getElem?_eq_none (by rw [brd_len]; omega)]
              rfl
          refine ⟨D2, _, rfl, SqL.of (by rw [e5, eus]), ?_⟩
          rw [sum_cast]
          have em : (((brd s).map fun p => 2 ^ L.idxOf p).sum : Nat) = mask L s := by unfold mask; rw [if_pos h1s]
          rw [em]
          exact ⟨c, _, _, rfl, rfl, s5 _ _ ec4, hlen, put H5 s5⟩
      · have h1s : ¬ 1 < s.length := fun z => by
          have e : ¬ decide ((1 : Int) < ((iv s).length : Int)) = true := e
          rw [decide_eq_true_eq, iv_len] at e
          omega
        have em : mask L s = 0 := by unfold mask; rw [if_neg h1s]
        have := put H4 (Same.refl _)
        rw [em] at this
        exact ⟨c, _, _, rfl, rfl, ec4, hlen, this⟩
    · obtain ⟨y3, y4, rfl, s2, ec⟩ := p
      rw [hyl, List.take_length] at ec
      exact ⟨_, rfl, q H2 c (sm.trans s2) hcn ec⟩
end
end G98
namespace G98
/-! ### columns as numbers -/
theorem bit_add {a r : Nat} (h : r.testBit a = false) (i : Nat) : (2 ^ a + r).testBit i = (decide (i = a) || r.testBit i) := by
  have hr : r = 2 ^ (a + 1) * (r / 2 ^ (a + 1)) + r % 2 ^ (a + 1) := (Nat.div_add_mod _ _).symm
  have hs : r % 2 ^ (a + 1) < 2 ^ (a + 1) := Nat.mod_lt _ (Nat.two_pow_pos _)
  generalize r / 2 ^ (a + 1) = q at hr
  generalize r % 2 ^ (a + 1) = s at hr hs
  subst hr
  rw [Nat.testBit_two_pow_mul_add _ hs, if_pos (Nat.lt_succ_self a)] at h
  have hs2 : s < 2 ^ a := by
    refine Nat.lt_pow_two_of_testBit s fun j hj => ?_
    by_cases e : j = a
    · rw [e]; exact h
    · exact Nat.testBit_lt_two_pow (Nat.lt_of_lt_of_le hs (Nat.pow_le_pow_right (by decide) (by omega)))
  have e1 : 2 ^ a + (2 ^ (a + 1) * q + s) = 2 ^ (a + 1) * q + (2 ^ a * 1 + s) := by rw [Nat.mul_one, Nat.add_left_comm]
  have hs3 : 2 ^ a * 1 + s < 2 ^ (a + 1) := by rw [Nat.pow_succ]; omega
  rw [e1, Nat.testBit_two_pow_mul_add _ hs3, Nat.testBit_two_pow_mul_add _ hs, Nat.testBit_two_pow_mul_add _ hs2]
  by_cases h1 : i < a + 1
  · rw [if_pos h1, if_pos h1]
    by_cases h2 : i < a
    · rw [if_pos h2]; simp [show ¬ i = a by omega]
    · have : i = a := by omega
      subst this
      rw [if_neg (by omega)]
      simp
  · rw [if_neg h1, if_neg h1]
    simp [show ¬ i = a by omega]
theorem sum_bit : ∀ {l : List Nat}, l.Nodup → ∀ i, ((l.map fun p => 2 ^ p).sum).testBit i = decide (i ∈ l)
  | [], _, i => by simp
  | a :: l, hn, i => by
    obtain ⟨h1, h2⟩ := List.nodup_cons.mp hn
    rw [List.map_cons, List.sum_cons, bit_add (by rw [sum_bit h2]; simpa using h1), sum_bit h2]
    simp
def nth (L : List (List Nat)) (i : Nat) : List Nat := L.getD i []
theorem nth_of {L : List (List Nat)} {i : Nat} {s : List Nat} (h : L[i]? = some s) : nth L i = s := by
  unfold nth
  rw [List.getD_eq_getElem?_getD, h]
  rfl
theorem nth_get {L : List (List Nat)} {i : Nat} (h : i < L.length) : L[i]? = some (nth L i) := by
  rw [nth_of (List.getElem?_eq_getElem h)]
  exact List.getElem?_eq_getElem h
theorem nth_mem {L : List (List Nat)} {i : Nat} (h : i < L.length) : nth L i ∈ L := List.mem_of_getElem? (nth_get h)
theorem idx_nth {L : List (List Nat)} (hn : L.Nodup) {i : Nat} (h : i < L.length) : L.idxOf (nth L i) = i := idx_at hn (nth_get h)
theorem nth_idx {L : List (List Nat)} {s : List Nat} (h : s ∈ L) : nth L (L.idxOf s) = s := by
  have l := List.idxOf_lt_length_of_mem h
  exact nth_of (by rw [List.getElem?_eq_getElem l, List.getElem_idxOf l])
theorem idx_inj {L : List (List Nat)} {s t : List Nat} (hs : s ∈ L) (ht : t ∈ L) (e : L.idxOf s = L.idxOf t) : s = t := by
  rw [← nth_idx hs, e, nth_idx ht]
def chn (L : List (List Nat)) (m : Nat) : Ch (List Nat) := fun s => decide (s ∈ L) && m.testBit (L.idxOf s)
def bdy (t : List Nat) : Ch (List Nat) := fun s => decide (1 < t.length) && decide (s ∈ brd t)
theorem chn_xor (L : List (List Nat)) (m k : Nat) : chn L (m ^^^ k) = ca (chn L m) (chn L k) := by
  funext s
  unfold chn ca
  rw [Nat.testBit_xor]
  by_cases h : s ∈ L <;> simp [h]
theorem chn_nth {L : List (List Nat)} (hn : L.Nodup) (m : Nat) {i : Nat} (h : i < L.length) : chn L m (nth L i) = m.testBit i := by
  unfold chn
  rw [idx_nth hn h, decide_eq_true (nth_mem h), Bool.true_and]
theorem U25_brdnod : ∀ s ∈ U25, (brd s).Nodup := by decide +kernel
theorem mask_bit {L : List (List Nat)} (hk : Cplx L) {t : List Nat} (ht : t ∈ L) (i : Nat) : (mask L t).testBit i = (decide (1 < t.length) && decide (i ∈ (brd t).map L.idxOf)) := by
  unfold mask
  by_cases h : 1 < t.length
  · rw [if_pos h, decide_eq_true h, Bool.true_and]
    have : ((brd t).map fun p => 2 ^ L.idxOf p) = ((brd t).map L.idxOf).map fun p => 2 ^ p := by rw [List.map_map]; rfl
    rw [this]
    exact sum_bit (nodup_map_on (U25_brdnod t (hk.sub t ht)) fun a ha b hb e => idx_inj (hk.down t ht h a ha) (hk.down t ht h b hb) e) i
  · rw [if_neg h, decide_eq_false h]
    simp
theorem chn_mask {L : List (List Nat)} (hk : Cplx L) {t : List Nat} (ht : t ∈ L) : chn L (mask L t) = bdy t := by
  funext s
  unfold chn bdy
  rw [mask_bit hk ht]
  by_cases h : 1 < t.length
  · rw [decide_eq_true h, Bool.true_and, Bool.true_and, Bool.eq_iff_iff, Bool.and_eq_true, decide_eq_true_eq, decide_eq_true_eq, decide_eq_true_eq]
    constructor
    · rintro ⟨h1, h2⟩
      obtain ⟨p, hp, e⟩ := List.mem_map.mp h2
      rw [← idx_inj (hk.down t ht h p hp) h1 e]
      exact hp
    · intro h1
      exact ⟨hk.down t ht h s h1, List.mem_map.mpr ⟨s, h1, rfl⟩⟩
  · rw [decide_eq_false h]
    simp
theorem mask_lt {L : List (List Nat)} (hk : Cplx L) {t : List Nat} (ht : t ∈ L) : mask L t < 2 ^ L.length := by
  refine Nat.lt_pow_two_of_testBit _ fun i hi => ?_
  rw [mask_bit hk ht]
  by_cases h : 1 < t.length
  · rw [Bool.and_eq_false_iff, decide_eq_false_iff_not, decide_eq_false_iff_not]
    right
    intro z
    obtain ⟨p, hp, e⟩ := List.mem_map.mp z
    have := List.idxOf_lt_length_of_mem (hk.down t ht h p hp)
    omega
  · rw [decide_eq_false h]
    simp
theorem tp_chn {L : List (List Nat)} (hn : L.Nodup) {c : Nat} (hc : c < 2 ^ L.length) : tp L.reverse (chn L c) = if c = 0 then none else some (nth L c.log2) := by
  by_cases h : c = 0
  · rw [if_pos h]
    refine List.find?_eq_none.mpr fun s _ => ?_
    unfold chn
    rw [h]
    simp
  · rw [if_neg h]
    have hp : c.log2 < L.length := (Nat.log2_lt h).mpr hc
    have eL : L = L.take c.log2 ++ nth L c.log2 :: L.drop (c.log2 + 1) := by
      have e := nth_get hp
      obtain ⟨l, e2⟩ := List.getElem?_eq_some_iff.mp e
      rw [← e2, List.getElem_cons_drop, List.take_append_drop]
    have er : L.reverse = (L.drop (c.log2 + 1)).reverse ++ nth L c.log2 :: (L.take c.log2).reverse := by
      conv => lhs; rw [eL]
      rw [List.reverse_append, List.reverse_cons, List.append_assoc]
      rfl
    rw [er, tp_append]
    have e1 : tp (L.drop (c.log2 + 1)).reverse (chn L c) = none := by
      refine List.find?_eq_none.mpr fun s hs => ?_
      obtain ⟨j, hj⟩ := List.getElem?_of_mem (List.mem_reverse.mp hs)
      rw [List.getElem?_drop] at hj
      have l := (List.getElem?_eq_some_iff.mp hj).1
      rw [← nth_of hj, chn_nth hn c l]
      have : c.testBit (c.log2 + 1 + j) = false := Nat.testBit_lt_two_pow (Nat.lt_of_lt_of_le Nat.lt_log2_self (Nat.pow_le_pow_right (by decide) (by omega)))
      rw [this]
      exact Bool.false_ne_true
    rw [e1, tp_cons_true (by rw [chn_nth hn c hp]; exact Nat.testBit_log2 h)]
    rfl
/-! ### the pairing, step by step -/
def gen (L : List (List Nat)) (col : Nat → Nat) (i : Nat) : List (Ch (List Nat)) := ((List.range i).filter fun j => decide ((nth L j).length = (nth L i).length)).map fun j => chn L (col j)
theorem gen_congr {L : List (List Nat)} {col col' : Nat → Nat} {i : Nat} (h : ∀ j, j < i → col j = col' j) : gen L col i = gen L col' i := by
  unfold gen
  refine List.map_congr_left fun j hj => ?_
  rw [h j (List.mem_range.mp ((List.mem_filter.mp hj).1))]
structure PP (L : List (List Nat)) (a : Nat) (col : Nat → Nat) (fnd : Mt) : Prop where
  lt : ∀ i, i < L.length → col i < 2 ^ L.length
  sup : ∀ i, i < L.length → ∀ s, chn L (col i) s = true → s.length + 1 = (nth L i).length
  old : ∀ i, a < i → i < L.length → col i = mask L (nth L i)
  cur : ∀ i, i ≤ a → i < L.length → Spn (gen L col i) (ca (chn L (col i)) (bdy (nth L i)))
  fwd : ∀ i, i < a → i < L.length → col i ≠ 0 → lk fnd (col i).log2 = some i
  bwd : ∀ p i, lk fnd p = some i → i < a ∧ i < L.length ∧ col i ≠ 0 ∧ (col i).log2 = p
  key : KOk L.length fnd
theorem cur_mask {L : List (List Nat)} (hk : Cplx L) {i : Nat} (hi : i < L.length) {col : Nat → Nat} (h : col i = mask L (nth L i)) : Spn (gen L col i) (ca (chn L (col i)) (bdy (nth L i))) := by
  rw [h, chn_mask hk (nth_mem hi), ca_self]
  exact (Spn.sb _).z
theorem PP.start {L : List (List Nat)} (hk : Cplx L) : PP L 0 (fun i => mask L (nth L i)) [] := by
  refine ⟨fun i hi => mask_lt hk (nth_mem hi), fun i hi s hs => ?_, fun _ _ _ => rfl, fun i _ hi => cur_mask hk hi rfl, fun i hi => absurd hi (Nat.not_lt_zero _), fun p i h => (by cases h), ⟨List.nodup_nil, fun j h => (by cases h)⟩⟩
  rw [chn_mask hk (nth_mem hi)] at hs
  unfold bdy at hs
  rw [Bool.and_eq_true, decide_eq_true_eq, decide_eq_true_eq] at hs
  exact U25_brdlen _ (hk.sub _ (nth_mem hi)) s hs.2
theorem PP.xor {L : List (List Nat)} (hk : Cplx L) {a j : Nat} {col : Nat → Nat} {fnd : Mt} (h : PP L a col fnd) (ha : a < L.length) (h0 : col a ≠ 0) (hj : lk fnd (col a).log2 = some j) :
    PP L a (fun i => if i = a then col a ^^^ col j else col i) fnd ∧ col a ^^^ col j < col a := by
  obtain ⟨ja, jn, j0, jl⟩ := h.bwd _ _ hj
  have hp : (col a).log2 < L.length := (Nat.log2_lt h0).mpr (h.lt a ha)
  have b1 : (col a).testBit (col a).log2 = true := Nat.testBit_log2 h0
  have b2 : (col j).testBit (col a).log2 = true := by rw [← jl]; exact Nat.testBit_log2 j0
  have s1 := h.sup a ha _ (by rw [chn_nth hk.nod _ hp]; exact b1)
  have s2 := h.sup j jn _ (by rw [chn_nth hk.nod _ hp]; exact b2)
  have hm : chn L (col j) ∈ gen L col a := List.mem_map.mpr ⟨j, List.mem_filter.mpr ⟨List.mem_range.mpr ja, by simp; omega⟩, rfl⟩
  refine ⟨⟨fun i hi => ?_, fun i hi s hs => ?_, fun i h1 h2 => ?_, fun i h1 h2 => ?_, fun i h1 h2 h3 => ?_, fun p i hp => ?_, h.key⟩, ?_⟩
  · show (if i = a then _ else _) < _
    by_cases e : i = a
    · rw [if_pos e]; exact Nat.xor_lt_two_pow (h.lt a ha) (h.lt j jn)
    · rw [if_neg e]; exact h.lt i hi
  · by_cases e : i = a
    · subst e
      simp only [if_true] at hs
      rw [chn_xor, ca_ap] at hs
      cases q : chn L (col i) s with
      | true => exact h.sup i hi s q
      | false =>
        rw [q, Bool.false_xor] at hs
        have := h.sup j jn s hs
        omega
    · simp only [if_neg e] at hs
      exact h.sup i hi s hs
  · show (if i = a then _ else _) = _
    rw [if_neg (by omega)]
    exact h.old i h1 h2
  · have eg : gen L (fun i => if i = a then col a ^^^ col j else col i) i = gen L col i := gen_congr fun k hk => if_neg (by omega)
    rw [eg]
    show Spn _ (ca (chn L (if i = a then _ else _)) _)
    by_cases e : i = a
    · subst e
      rw [if_pos rfl, chn_xor, ca_comm (chn L (col i)), ca_assoc]
      exact (Spn.sb _).a _ _ (Spn.mem hm) (h.cur i h1 h2)
    · rw [if_neg e]
      exact h.cur i h1 h2
  · have e : i ≠ a := by omega
    simp only [if_neg e] at h3 ⊢
    exact h.fwd i h1 h2 h3
  · obtain ⟨g1, g2, g3, g4⟩ := h.bwd p i hp
    have e : i ≠ a := by omega
    simp only [if_neg e]
    exact ⟨g1, g2, g3, g4⟩
  · refine Nat.lt_of_lt_of_le (Nat.lt_pow_two_of_testBit (n := (col a).log2) _ fun i hi => ?_) (Nat.log2_self_le h0)
    rw [Nat.testBit_xor]
    by_cases e : i = (col a).log2
    · rw [e, b1, b2]; rfl
    · have t1 : (col a).testBit i = false := Nat.testBit_lt_two_pow (Nat.lt_of_lt_of_le Nat.lt_log2_self (Nat.pow_le_pow_right (by decide) (by omega)))
      have t2 : (col j).testBit i = false := Nat.testBit_lt_two_pow (Nat.lt_of_lt_of_le Nat.lt_log2_self (Nat.pow_le_pow_right (by decide) (by omega)))
      rw [t1, t2]; rfl
theorem PP.zero {L : List (List Nat)} (hk : Cplx L) {a : Nat} {col : Nat → Nat} {fnd : Mt} (h : PP L a col fnd) (h0 : col a = 0) : PP L (a + 1) col fnd := by
  refine ⟨h.lt, h.sup, fun i h1 h2 => h.old i (by omega) h2, fun i h1 h2 => ?_, fun i h1 h2 h3 => ?_, fun p i hp => ?_, h.key⟩
  · by_cases e : i = a + 1
    · exact cur_mask hk h2 (h.old i (by omega) h2)
    · exact h.cur i (by omega) h2
  · by_cases e : i = a
    · subst e; exact absurd h0 h3
    · exact h.fwd i (by omega) h2 h3
  · obtain ⟨g1, g2, g3, g4⟩ := h.bwd p i hp
    exact ⟨by omega, g2, g3, g4⟩
theorem PP.put {L : List (List Nat)} (hk : Cplx L) {a : Nat} {col : Nat → Nat} {fnd : Mt} (h : PP L a col fnd) (ha : a < L.length) (h0 : col a ≠ 0) (hj : lk fnd (col a).log2 = none) : PP L (a + 1) col (pt fnd (col a).log2 a) := by
  refine ⟨h.lt, h.sup, fun i h1 h2 => h.old i (by omega) h2, fun i h1 h2 => ?_, fun i h1 h2 h3 => ?_, fun p i hp => ?_, h.key.pt ((Nat.log2_lt h0).mpr (h.lt a ha)) a⟩
  · by_cases e : i = a + 1
    · exact cur_mask hk h2 (h.old i (by omega) h2)
    · exact h.cur i (by omega) h2
  · rw [lk_pt]
    by_cases e : i = a
    · subst e; rw [if_pos rfl]
    · have f := h.fwd i (by omega) h2 h3
      have : ¬ (col i).log2 = (col a).log2 := fun z => by rw [z, hj] at f; cases f
      rw [if_neg this]
      exact f
  · rw [lk_pt] at hp
    by_cases e : p = (col a).log2
    · rw [if_pos e] at hp
      cases hp
      exact ⟨by omega, ha, h0, e.symm⟩
    · rw [if_neg e] at hp
      obtain ⟨g1, g2, g3, g4⟩ := h.bwd p i hp
      exact ⟨by omega, g2, g3, g4⟩
def RR (L : List (List Nat)) (col : Nat → Nat) (t : List Nat) : Ch (List Nat) := chn L (col (L.idxOf t))
theorem RR_tp {L : List (List Nat)} (hk : Cplx L) {a : Nat} {col : Nat → Nat} {fnd : Mt} (h : PP L a col fnd) {i : Nat} (hi : i < L.length) : tp L.reverse (RR L col (nth L i)) = if col i = 0 then none else some (nth L (col i).log2) := by
  unfold RR
  rw [idx_nth hk.nod hi, tp_chn hk.nod (h.lt i hi)]
theorem PP.red {L : List (List Nat)} (hk : Cplx L) {col : Nat → Nat} {fnd : Mt} (h : PP L L.length col fnd) : Red L List.length bdy (RR L col) := by
  refine ⟨hk.nod, fun t ht s hs => ?_, fun P t Q e => ?_, fun s hs t ht a h1 h2 => ?_⟩
  · unfold bdy at hs
    rw [Bool.and_eq_true, decide_eq_true_eq, decide_eq_true_eq] at hs
    exact ⟨hk.down t ht hs.1 s hs.2, U25_brdlen t (hk.sub t ht) s hs.2⟩
  · have hi : P.length < L.length := by rw [e]; simp
    have et : L[P.length]? = some t := by rw [e]; simp
    have hP : P = (List.range P.length).map (nth L) := by
      refine List.ext_getElem? fun j => ?_
      by_cases hj : j < P.length
      · rw [List.getElem?_map, List.getElem?_range hj]
        have : L[j]? = P[j]? := by rw [e, List.getElem?_append_left hj]
        rw [← this, nth_get (by omega)]
        rfl
      · rw [List.getElem?_eq_none (by omega), List.getElem?_eq_none (by simp; omega)]
    have eg : (P.filter fun s => decide (s.length = t.length)).map (RR L col) = gen L col P.length := by
      have e1 : P.filter (fun s => decide (s.length = t.length)) = ((List.range P.length).map (nth L)).filter (fun s => decide (s.length = t.length)) := congrArg _ hP
      rw [e1, List.filter_map, List.map_map]
      unfold gen
      rw [nth_of et]
      refine List.map_congr_left fun j hj => ?_
      have := List.mem_range.mp ((List.mem_filter.mp hj).1)
      show RR L col (nth L j) = _
      unfold RR
      rw [idx_nth hk.nod (by omega)]
    rw [eg]
    have := h.cur P.length (by omega) hi
    rw [nth_of et] at this
    unfold RR
    rw [idx_at hk.nod et]
    exact this
  · have l1 := List.idxOf_lt_length_of_mem hs
    have l2 := List.idxOf_lt_length_of_mem ht
    rw [← nth_idx hs, RR_tp hk h l1] at h1
    rw [← nth_idx ht, RR_tp hk h l2] at h2
    by_cases c1 : col (L.idxOf s) = 0
    · rw [if_pos c1] at h1; cases h1
    by_cases c2 : col (L.idxOf t) = 0
    · rw [if_pos c2] at h2; cases h2
    rw [if_neg c1] at h1
    rw [if_neg c2] at h2
    have ee := Option.some.inj (h1.trans h2.symm)
    have p1 := (Nat.log2_lt c1).mpr (h.lt _ l1)
    have p2 := (Nat.log2_lt c2).mpr (h.lt _ l2)
    have e3 : (col (L.idxOf s)).log2 = (col (L.idxOf t)).log2 := by rw [← idx_nth hk.nod p1, ee, idx_nth hk.nod p2]
    have f1 := h.fwd _ l1 l1 c1
    have f2 := h.fwd _ l2 l2 c2
    rw [e3, f2] at f1
    exact idx_inj hs ht (Option.some.inj f1).symm
theorem PP.fil {L : List (List Nat)} (hk : Cplx L) {col : Nat → Nat} {fnd : Mt} (h : PP L L.length col fnd) {i : Nat} (hi : i < L.length) : fil L (RR L col) (nth L i) = (lk fnd i).map (nth L) := by
  cases e : lk fnd i with
  | some j =>
    obtain ⟨g1, g2, g3, g4⟩ := h.bwd i j e
    exact (h.red hk).filled (nth_mem g2) (by rw [RR_tp hk h g2, if_neg g3, g4])
  | none =>
    cases q : G98.fil L (RR L col) (nth L i) with
    | none => rfl
    | some t =>
      exfalso
      obtain ⟨ht, h2⟩ := fil_some q
      have l2 := List.idxOf_lt_length_of_mem ht
      rw [← nth_idx ht, RR_tp hk h l2] at h2
      by_cases c2 : col (L.idxOf t) = 0
      · rw [if_pos c2] at h2; cases h2
      rw [if_neg c2] at h2
      have p2 := (Nat.log2_lt c2).mpr (h.lt _ l2)
      have e3 : (col (L.idxOf t)).log2 = i := by rw [← idx_nth hk.nod p2, Option.some.inj h2, idx_nth hk.nod hi]
      have f2 := h.fwd _ l2 l2 c2
      rw [e3, e] at f2
      cases f2
theorem PP.filler {L : List (List Nat)} (hk : Cplx L) {col : Nat → Nat} {fnd : Mt} (h : PP L L.length col fnd) {i : Nat} (hi : i < L.length) : (tp L.reverse (RR L col (nth L i))).isSome = true ↔ ∃ p, lk fnd p = some i := by
  rw [RR_tp hk h hi]
  constructor
  · intro z
    by_cases c : col i = 0
    · rw [if_pos c] at z; cases z
    · exact ⟨_, h.fwd i hi hi c⟩
  · rintro ⟨p, hp⟩
    obtain ⟨_, _, g3, _⟩ := h.bwd p i hp
    rw [if_neg g3]
    rfl
/-! ### the boundary of a boundary -/
theorem bdy_bb : ∀ t ∈ U25, ∀ s ∈ U25, exd (brd t) bdy (bdy t) s = false := by decide +kernel
end G98
namespace G98
open PySem PySem.Spec PyProof.Rows L2
/-! ### dicts from numbers to numbers -/
def kN (n : Nat) : Key := Sum.inl (n : Int)
theorem kN_inj {a b : Nat} (h : kN a = kN b) : a = b := by
  have h : (a : Int) = (b : Int) := Sum.inl.inj h
  omega
def encM (L : Mt) : List (Key × V) := L.map fun p => (kN p.1, V.int (p.2 : Nat))
theorem encM_len (L : Mt) : (encM L).length = L.length := List.length_map _
theorem valV_encM (k : Nat) : ∀ L : Mt, valV (encM L) (kN k) = (lk L k).map fun v : Nat => V.int (v : Nat)
  | [] => rfl
  | p :: L => by
    show valV ((kN p.1, V.int (p.2 : Nat)) :: encM L) (kN k) = _
    rw [lk_cons]
    by_cases e : p.1 = k
    · rw [valV_pos (by rw [e]), if_pos e]
      rfl
    · rw [valV_neg (fun z => e (kN_inj z)), valV_encM k L, if_neg e]
theorem putK_encM (L : Mt) (k v : Nat) : putK (encM L) (kN k) (.int (v : Nat)) = encM (pt L k v) := by
  have e : ((encM L).any fun kv => decide (kv.1 = kN k)) = L.any fun p => decide (p.1 = k) := by
    unfold encM
    rw [List.any_map]
    congr 1
    funext p
    show decide (kN p.1 = kN k) = decide (p.1 = k)
    rw [Bool.eq_iff_iff, decide_eq_true_eq, decide_eq_true_eq]
    exact ⟨kN_inj, fun z => by rw [z]⟩
  unfold putK pt
  rw [e]
  by_cases h : (L.any fun p => decide (p.1 = k)) = true
  · rw [if_pos h, if_pos h]
    unfold encM
    rw [List.map_map, List.map_map]
    refine List.map_congr_left fun p _ => ?_
    show (if kN p.1 = kN k then (kN p.1, V.int (v : Nat)) else (kN p.1, V.int (p.2 : Nat))) = (fun p : Nat × Nat => (kN p.1, V.int (p.2 : Nat))) (if p.1 = k then (p.1, v) else p)
    by_cases e2 : p.1 = k
    · rw [if_pos (by rw [e2]), if_pos e2]
    · rw [if_neg (fun z => e2 (kN_inj z)), if_neg e2]
  · rw [if_neg h, if_neg h]
    unfold encM
    rw [List.map_append]
    rfl
def cl (col : Nat → Nat) (n : Nat) : List V := (List.range n).map fun i => V.int (col i : Nat)
theorem cl_len (col : Nat → Nat) (n : Nat) : (cl col n).length = n := by unfold cl; rw [List.length_map, List.length_range]
theorem cl_at (col : Nat → Nat) {n i : Nat} (h : i < n) : (cl col n)[i]? = some (.int (col i : Nat)) := by
  unfold cl
  rw [List.getElem?_map, List.getElem?_range h]
  rfl
theorem cl_set (col : Nat → Nat) (n a x : Nat) : (cl col n).set a (.int (x : Nat)) = cl (fun i => if i = a then x else col i) n := by
  refine List.ext_getElem? fun i => ?_
  rw [List.getElem?_set, cl_len]
  by_cases hi : i < n
  · rw [cl_at (fun i => if i = a then x else col i) hi]
    by_cases e : a = i
    · subst e
      rw [if_pos rfl, if_pos hi, if_pos rfl]
    · rw [if_neg e, cl_at col hi, if_neg (fun z : i = a => e z.symm)]
  · rw [List.getElem?_eq_none (l := cl (fun i => if i = a then x else col i) n) (by rw [cl_len]; omega)]
    by_cases e : a = i
    · rw [if_pos e, if_neg (by omega)]
    · rw [if_neg e, List.getElem?_eq_none (by rw [cl_len]; omega)]
theorem masks_cl (L : List (List Nat)) : (L.map fun s => V.int (mask L s : Nat)) = cl (fun i => mask L (nth L i)) L.length := by
  refine List.ext_getElem? fun i => ?_
  rw [List.getElem?_map]
  by_cases hi : i < L.length
  · rw [cl_at _ hi, nth_get hi]
    rfl
  · rw [List.getElem?_eq_none (by omega), List.getElem?_eq_none (by rw [cl_len]; omega)]
    rfl
theorem bits_of {c : Nat} (h : c ≠ 0) : ((Builtin.Int.intBits (c : Int) : Nat) : Int) - 1 = (c.log2 : Nat) := by
  unfold Builtin.Int.intBits
  rw [if_neg (by simp; omega)]
  have : ((c : Int)).natAbs = c := rfl
  rw [this]
  omega
theorem ixN_nat {n j : Nat} (h : j < n) : ixN n (j : Int) = some j := by
  have e := atI_nat (xs := List.range n) (j := j) (v := j) (List.getElem?_range h)
  unfold atI at e
  rw [List.length_range] at e
  cases q : ixN n (j : Int) with
  | none => rw [q] at e; cases e
  | some k =>
    rw [q] at e
    have e : (List.range n)[k]? = some j := e
    have hk := (ixN_seq q).2.1
    rw [List.getElem?_range hk] at e
    exact e
section
variable {P : Program} {w : World} {K : PySem.W.Frag} {mg : Str → Option Value} {base : Heap}
abbrev sPP : Stmt := topS 44
abbrev nPP : List Str := ["order", "found", "columns", "at"]
def spPP : Sp := fun vs H Q _ => ∃ (a : Addr) (L : List (List Nat)), vs = [.ref a] ∧ LS H a L ∧ Cplx L ∧ ∀ H' d col fnd, Same H H' → H d = none → H' d = some (.dK (encM fnd)) → PP L L.length col fnd → Q (.ref d) H'
theorem scPP : FnScope nPP ["order"] (defScope sPP) := ⟨rfl, rfl, rfl, by decide +kernel, rfl, by decide +kernel, by decide +kernel⟩
theorem ok_pp {f : Addr} {fd : FuncData} (T : Txt mg) (DM : Df P w K mg base 1 "masks_of" ["order"] spMO) (F : Fun K "places_of_pairs" "places_of_pairs" sPP f fd) : FnOk P w K mg base CX0 2 f fd ["order"] spPP := by
  refine F.ok scPP (fun vs H Q E h => ?_) (fun cdv A outer s0 H vs Q E hr h => ?_)
  · obtain ⟨a, L, rfl, _⟩ := h
    rfl
  obtain ⟨a, L, rfl, hL, hk, q⟩ := h
  have hu := hu_of hr
  have h25 := hk.len
  refine ⟨_, pss_cons (ps_par (i := 1) (j := 2) rfl scPP.nd rfl rfl (by decide) rfl rfl (pa_cons pe_dnewK (pa_cons (pe_f DM hr (pa_cons (pv 0) pa_nil)) pa_nil)) (by rfl))
    (pss_cons (ps_for PassesOwn.never rfl (pi_range1 (by rfl) T.range (pa_cons (pe_callB call_len_seq (by rfl) T.len PySem.boot_len (pa_cons (pv 2) pa_nil)) pa_nil)) (pg_name (i := 3) scPP.nd rfl (.inl rfl))
      (pss_cons (ps_while PassesOwn.never (PW.pt (pw_and (pt_cmpR op_ne (pe_ix ix_list (pv 2) (pv 3) (fun _ _ => rfl)) pe_int (nomark _))
          (pw_and1 (pt_cmp (pc_din hu (pe_op op_sub (pe_bits (pe_ix ix_list (pv 2) (pv 3) (fun _ _ => rfl))) pe_int) (pv 1))))))
        (pss_one (ps_asg (pe_op op_xor (pe_ix ix_list (pv 2) (pv 3) (fun _ _ => rfl)) (pe_ix ix_list (pv 2) (pe_dget hu (pv 1) (pe_op op_sub (pe_bits (pe_ix ix_list (pv 2) (pv 3) (fun _ _ => rfl))) pe_int) (by first | exact (fun _ _ => rfl) | (intros; rfl) | trivial)) (fun _ _ => rfl))) (pg_sub (pv 2) (pv 3) set_list))))
      (pss_one (ps_if (pt_cmpR op_ne (pe_ix ix_list (pv 2) (pv 3) (fun _ _ => rfl)) pe_int (nomark _))
        (pss_one (ps_dput hu (pv 1) (pe_op op_sub (pe_bits (pe_ix ix_list (pv 2) (pv 3) (fun _ _ => rfl))) pe_int) (pv 3) rfl)) pss_nil))))
    (pss_one (ps_ret (pv 1)))), ?_⟩
  refine fun d nd => ⟨_, rfl, a, L, rfl, hL.same (same_upd nd), hk, fun H1 c s1 nc ec => ⟨_, _, rfl, ?_⟩⟩
  have nH : H d = none := nd
  have ncd : c ≠ d := fun z => by
    rw [z, upd_same] at nc
    cases nc
  have ncH : H c = none := by rw [upd_ne ncd] at nc; exact nc
  rw [masks_cl] at ec
  have ed : H1 d = some (.dK (encM [])) := s1 _ _ upd_same
  have sA : Same H H1 := (same_upd nd).trans s1
  have blk : ∀ {H2 : Hp} {x y : HO}, Same H H2 → Same H (upd (upd H2 d x) c y) := fun s b o e => by rw [upd_ne (ne_of_none e ncH), upd_ne (ne_of_none e nd)]; exact s b o e
  refine ⟨_, rfl, c, _, rfl, .inl (SqL.of ec), _, rfl, by omega, by rw [cl_len]; omega, ?_⟩
  rw [cl_len]
  refine for_range (n := L.length) (fun i σ H' => ∃ y3 col fnd, σ = [some (.ref a), some (.ref d), some (.ref c), y3] ∧ Same H H' ∧ H' d = some (.dK (encM fnd)) ∧ H' c = some (.lst (cl col L.length)) ∧ PP L i col fnd) ⟨none, _, _, rfl, sA, ed, ec, PP.start hk⟩ (fun i σ H2 hi p => ?_) fun σ H2 p => ?_
  · obtain ⟨y3, col, fnd, rfl, s2, ed2, ec2, pp⟩ := p
    let W : Nat → Sl → Hp → Prop := fun m σ H' => ∃ col fnd, m = col i ∧ σ = [some (.ref a), some (.ref d), some (.ref c), some (.int (i : Nat))] ∧ Same H H' ∧ H' d = some (.dK (encM fnd)) ∧ H' c = some (.lst (cl col L.length)) ∧ PP L i col fnd
    refine ⟨W, ⟨_, col, fnd, rfl, by rw [Int.zero_add]; rfl, s2, ed2, ec2, pp⟩, fun m σ H3 hw => ?_⟩
    obtain ⟨col, fnd, rfl, rfl, s3, ed3, ec3, pp⟩ := hw
    have at1 : ∀ {j : Nat}, j < L.length → atI (cl col L.length) (j : Int) = some (.int (col j : Nat)) := fun hj => atI_nat (cl_at _ hj)
    have fl : fnd.length ≤ 25 := by have := pp.key.len; omega
    refine ⟨_, rfl, _, rfl, c, _, _, _, rfl, rfl, SqL.of ec3, at1 hi, rfl, _, rfl, ?_⟩
    by_cases h0 : col i = 0
    · rw [h0]
      refine iteF ?_
      refine ⟨_, rfl, _, rfl, c, _, _, _, rfl, rfl, SqL.of ec3, at1 hi, rfl, _, rfl, ?_⟩
      rw [h0]
      exact iteF ⟨_, col, fnd, rfl, s3, ed3, ec3, pp.zero hk h0⟩
    · have d0 : (!decide (V.int (col i : Nat) = V.int 0)) = true := by
        rw [dec_int]
        simp
        omega
      rw [d0]
      have hb := bits_of h0
      have get : DGet H3 d (.int (((Builtin.Int.intBits (col i : Nat) : Nat) : Int) - 1)) ((lk fnd (col i).log2).map fun v : Nat => V.int (v : Nat)) := by
        rw [hb, ← valV_encM]
        exact DGet.k (k := kN (col i).log2) ed3
      refine iteT ⟨_, rfl, _, rfl, c, _, _, _, rfl, rfl, SqL.of ec3, at1 hi, _, rfl, _, _, rfl, rfl, _, rfl, d, _, rfl, get, _, rfl, ?_⟩
      cases hj : lk fnd (col i).log2 with
      | some j =>
        rw [hj] at get
        obtain ⟨px, plt⟩ := pp.xor hk hi h0 hj
        obtain ⟨ja, jn, _, _⟩ := pp.bwd _ _ hj
        refine iteT ⟨fun σ' H' => ∃ m', m' < col i ∧ W m' σ' H', fun _ _ h => h, ?_⟩
        refine ⟨_, rfl, _, rfl, c, _, _, _, rfl, rfl, SqL.of ec3, at1 hi, _, rfl, _, rfl, _, rfl, _, rfl, c, _, _, _, rfl, rfl, SqL.of ec3, at1 hi, _, rfl, _, _, rfl, rfl, d, _, rfl, get, c, _, _, _, rfl, rfl, SqL.of ec3, at1 jn, _, _, rfl, rfl, _, rfl, _, rfl, c, _, _, i, rfl, rfl, ec3, ?_, ?_⟩
        · rw [cl_len]; exact ixN_nat hi
        · have ex : Builtin.bitXor (col i : Nat) (col j : Nat) = ((col i ^^^ col j : Nat) : Int) := Bits.bitXor_pp (by omega) (by omega)
          refine ⟨col i ^^^ col j, plt, fun k => if k = i then col i ^^^ col j else col k, fnd, (if_pos rfl).symm, rfl, fun b o e => by rw [upd_ne (ne_of_none e ncH)]; exact s3 b o e, ?_, by rw [upd_same]; show some (HO.lst ((cl col L.length).set i (V.int (Builtin.bitXor (col i : Nat) (col j : Nat))))) = _; rw [ex, cl_set], px⟩
          rw [upd_ne ncd.symm]
          exact ed3
      | none =>
        refine iteF ?_
        refine ⟨_, rfl, _, rfl, c, _, _, _, rfl, rfl, SqL.of ec3, at1 hi, rfl, _, rfl, ?_⟩
        rw [d0]
        have put : DPut H3 d (.int (((Builtin.Int.intBits (col i : Nat) : Nat) : Int) - 1)) (.int (i : Nat)) (upd H3 d (.dK (encM (pt fnd (col i).log2 i)))) := by
          rw [hb, ← putK_encM]
          exact DPut.k (k := kN (col i).log2) ed3 (by rw [encM_len]; exact small1000 (by omega))
        refine iteT ⟨_, rfl, _, rfl, _, rfl, _, rfl, c, _, _, _, rfl, rfl, SqL.of ec3, at1 hi, _, rfl, _, _, rfl, rfl, d, _, rfl, put, ?_⟩
        refine ⟨_, col, _, rfl, fun b o e => by rw [upd_ne (ne_of_none e nd)]; exact s3 b o e, upd_same, ?_, pp.put hk hi h0 hj⟩
        rw [upd_ne ncd]
        exact ec3
  · obtain ⟨y3, col, fnd, rfl, s2, ed2, ec2, pp⟩ := p
    exact ⟨_, rfl, q H2 d col fnd s2 nd ed2 pp⟩
end
end G98
namespace G98
open PySem PySem.Spec PyProof.Rows L2
/-! ### rows of things -/
structure RV {α : Type} (rel : Hp → V → α → Prop) (H : Hp) (zs : List V) (as : List α) : Prop where
  len : zs.length = as.length
  at' : ∀ (j : Nat) (z : V), zs[j]? = some z → ∃ a, as[j]? = some a ∧ rel H z a
section
variable {α : Type} {rel : Hp → V → α → Prop} {H H' : Hp} {zs ys : List V} {as bs : List α}
abbrev Stb (rel : Hp → V → α → Prop) : Prop := ∀ H H' z a, Tk H H' → rel H z a → rel H' z a
theorem RV.tk (st : Stb rel) (k : Tk H H') (h : RV rel H zs as) : RV rel H' zs as := ⟨h.len, fun j z e => let ⟨a, e2, i⟩ := h.at' j z e; ⟨a, e2, st _ _ _ _ k i⟩⟩
theorem RV.nil : RV rel H [] [] := ⟨rfl, fun j y e => by simp at e⟩
theorem RV.app (h : RV rel H ys as) (h2 : RV rel H zs bs) : RV rel H (ys ++ zs) (as ++ bs) := by
  have l1 := h.len
  refine ⟨by simp [h.len, h2.len], fun j y e => ?_⟩
  by_cases hj : j < ys.length
  · rw [List.getElem?_append_left hj] at e
    rw [List.getElem?_append_left (by omega)]
    exact h.at' j y e
  · rw [List.getElem?_append_right (by omega)] at e
    rw [List.getElem?_append_right (by omega)]
    obtain ⟨s, e2, i⟩ := h2.at' _ y e
    exact ⟨s, by rw [← l1]; exact e2, i⟩
theorem RV.one {z : V} {a : α} (h : rel H z a) : RV rel H [z] [a] := ⟨rfl, fun j y e => by
  cases j with
  | zero =>
    have e : z = y := by simpa using e
    subst e
    exact ⟨a, rfl, h⟩
  | succ j => simp at e⟩
theorem RV.get (h : RV rel H zs as) {j : Nat} {a : α} (e : as[j]? = some a) : ∃ z, zs[j]? = some z ∧ rel H z a := by
  have hj := (List.getElem?_eq_some_iff.mp e).1
  have l := h.len
  have e2 : zs[j]? = some (zs[j]'(by omega)) := List.getElem?_eq_getElem _
  obtain ⟨s', e3, i⟩ := h.at' j _ e2
  rw [e] at e3
  cases e3
  exact ⟨_, e2, i⟩
end
/-! ### dicts of numbers, each with True -/
def encG (T : List Nat) : List (Key × V) := T.map fun j => (kN j, V.bl true)
def insN (T : List Nat) (j : Nat) : List Nat := if j ∈ T then T else T ++ [j]
theorem encG_len (T : List Nat) : (encG T).length = T.length := List.length_map _
theorem valV_encG (k : Nat) : ∀ T : List Nat, valV (encG T) (kN k) = if k ∈ T then some (V.bl true) else none
  | [] => by rw [if_neg (by simp)]; rfl
  | j :: T => by
    show valV ((kN j, V.bl true) :: encG T) (kN k) = _
    by_cases e : j = k
    · rw [valV_pos (by rw [e]), if_pos (by simp [e])]
    · rw [valV_neg (fun z => e (kN_inj z)), valV_encG k T]
      have : k ∈ j :: T ↔ k ∈ T := by simp [show ¬ k = j from fun z => e z.symm]
      by_cases h : k ∈ T
      · rw [if_pos h, if_pos (this.mpr h)]
      · rw [if_neg h, if_neg (fun z => h (this.mp z))]
theorem putK_encG (T : List Nat) (k : Nat) : putK (encG T) (kN k) (V.bl true) = encG (insN T k) := by
  by_cases h : k ∈ T
  · unfold putK insN
    rw [if_pos h, valV_any, valV_encG, if_pos h]
    refine (if_pos rfl).trans (putK_same _ _ fun p hp _ => ?_)
    obtain ⟨q, hq, e⟩ := List.mem_map.mp hp
    rw [← e]
  · unfold insN
    rw [if_neg h, putK_new]
    · unfold encG
      rw [List.map_append]
      rfl
    · rw [valV_encG, if_neg h]
theorem mem_insN {T : List Nat} {j k : Nat} : k ∈ insN T j ↔ k ∈ T ∨ k = j := by
  unfold insN
  by_cases h : j ∈ T
  · rw [if_pos h]
    exact ⟨.inl, fun z => z.elim id fun e => e ▸ h⟩
  · rw [if_neg h]; simp
theorem lk_mem {L : Mt} (hn : (L.map (·.1)).Nodup) {p v : Nat} : lk L p = some v ↔ (p, v) ∈ L := by
  induction L with
  | nil => simp [lk_nil]
  | cons q L ih =>
    obtain ⟨h1, h2⟩ := List.nodup_cons.mp hn
    rw [lk_cons]
    by_cases e : q.1 = p
    · rw [if_pos e]
      constructor
      · intro z
        have : q.2 = v := Option.some.inj z
        rw [← e, ← this]
        exact List.mem_cons_self
      · intro z
        rcases List.mem_cons.mp z with z | z
        · rw [← z]
        · exact absurd (List.mem_map.mpr ⟨(p, v), z, rfl⟩ : p ∈ L.map (·.1)) (by rw [← e]; exact h1)
    · rw [if_neg e, ih h2]
      constructor
      · exact List.mem_cons_of_mem _
      · intro z
        rcases List.mem_cons.mp z with z | z
        · exact absurd (by rw [← z]) e
        · exact z
/-! ### the told pairs -/
abbrev Tp := List Nat × Option (List Nat)
def ent (L : List (List Nat)) (fnd : Mt) (i : Nat) : Option Tp := match lk fnd i with
  | some j => some (nth L i, some (nth L j))
  | none => if i ∈ fnd.map (·.2) then none else some (nth L i, none)
def told (L : List (List Nat)) (fnd : Mt) (n : Nat) : List Tp := (List.range n).filterMap (ent L fnd)
theorem told_succ (L : List (List Nat)) (fnd : Mt) (n : Nat) : told L fnd (n + 1) = told L fnd n ++ (ent L fnd n).toList := by
  unfold told
  rw [List.range_succ, List.filterMap_append]
  cases e : ent L fnd n with
  | none => rw [List.filterMap_cons_none e]; rfl
  | some p => rw [List.filterMap_cons_some e]; rfl
theorem told_len (L : List (List Nat)) (fnd : Mt) (n : Nat) : (told L fnd n).length ≤ n := by
  have := List.length_filterMap_le (ent L fnd) (List.range n)
  rwa [List.length_range] at this
def IsTp (H : Hp) (z : V) (p : Tp) : Prop := ∃ q x y, z = .ref q ∧ H q = some (.tup [x, y]) ∧ IsS H x p.1 ∧ match p.2 with | none => y = .non | some t => IsS H y t
theorem IsTp.stb : Stb IsTp := fun H H' z p k h => by
  obtain ⟨q, x, y, e, h1, h2, h3⟩ := h
  refine ⟨q, x, y, e, k _ _ h1, h2.tk k, ?_⟩
  cases e : p.2 with
  | none => rw [e] at h3; exact h3
  | some t => rw [e] at h3; exact h3.tk k
theorem fm_congr {α β : Type} {f g : α → Option β} : ∀ {l : List α}, (∀ a ∈ l, f a = g a) → l.filterMap f = l.filterMap g
  | [], _ => rfl
  | a :: l, h => by
    have e := h a List.mem_cons_self
    have ih := fm_congr (l := l) fun b hb => h b (List.mem_cons_of_mem _ hb)
    rw [List.filterMap_cons, List.filterMap_cons, e, ih]
/-- the rows of bars before the equal ones fall out -/
theorem told_BL {L : List (List Nat)} (hk : Cplx L) {col : Nat → Nat} {fnd : Mt} (pp : PP L L.length col fnd) (h : List Nat → Nat) (k : Nat) :
    (told L fnd L.length).filterMap (fun p => if p.1.length = k then some (h p.1, p.2.map h) else none) = BL L List.length (RR L col) h k := by
  have hL : L = (List.range L.length).map (nth L) := by
    refine List.ext_getElem? fun j => ?_
    by_cases hj : j < L.length
    · rw [List.getElem?_map, List.getElem?_range hj, nth_get hj]
      rfl
    · rw [List.getElem?_eq_none (by omega), List.getElem?_eq_none (by simp; omega)]
  unfold told BL
  rw [List.filterMap_filterMap]
  conv => rhs; arg 2; rw [hL]
  rw [List.filterMap_map]
  refine fm_congr fun i hi => ?_
  have hi := List.mem_range.mp hi
  show (ent L fnd i).bind _ = if (nth L i).length = k then _ else none
  rw [pp.fil hk hi]
  unfold ent
  cases e : lk fnd i with
  | some j => rfl
  | none =>
    have ef := pp.filler hk hi
    have em : (∃ p, lk fnd p = some i) ↔ i ∈ fnd.map (·.2) := by
      rw [List.mem_map]
      constructor
      · rintro ⟨p, hp⟩
        exact ⟨(p, i), (lk_mem pp.key.nod).mp hp, rfl⟩
      · rintro ⟨⟨p, v⟩, hp, rfl⟩
        exact ⟨p, (lk_mem pp.key.nod).mpr hp⟩
    by_cases hf : i ∈ fnd.map (·.2)
    · have : (tp L.reverse (RR L col (nth L i))).isSome = true := ef.mpr (em.mpr hf)
      rw [if_pos hf]
      show none = if _ then (if _ then none else _) else none
      rw [if_pos this]
      split <;> rfl
    · have : ¬ (tp L.reverse (RR L col (nth L i))).isSome = true := fun z => hf (em.mp (ef.mp z))
      rw [if_neg hf]
      show (if (nth L i).length = k then _ else none) = if _ then (if _ then none else _) else none
      rw [if_neg this]
      rfl
section
variable {P : Program} {w : World} {K : PySem.W.Frag} {mg : Str → Option Value} {base : Heap}
abbrev sTP : Stmt := topS 45
abbrev nTP : List Str := ["order", "places", "fillers", "found", "at", "simplex"]
def spTP : Sp := fun vs H Q _ => ∃ (a d : Addr) (L : List (List Nat)) (fnd : Mt), vs = [.ref a, .ref d] ∧ LS H a L ∧ L.length ≤ 1000 ∧ H d = some (.dK (encM fnd)) ∧ KOk L.length fnd ∧ (∀ p v, lk fnd p = some v → v < L.length) ∧
  ∀ H' r zs, Same H H' → H' r = some (.tup zs) → RV IsTp H' zs (told L fnd L.length) → Q (.ref r) H'
theorem scTP : FnScope nTP ["order", "places"] (defScope sTP) := ⟨rfl, rfl, rfl, by decide +kernel, rfl, by decide +kernel, by decide +kernel⟩
theorem ok_tp {f : Addr} {fd : FuncData} (T : Txt mg) (F : Fun K "told_pairs" "told_pairs" sTP f fd) : FnOk P w K mg base CX0 1 f fd ["order", "places"] spTP := by
  refine F.ok scTP (fun vs H Q E h => ?_) (fun cdv A outer s0 H vs Q E hr h => ?_)
  · obtain ⟨a, d, L, fnd, rfl, _⟩ := h
    rfl
  obtain ⟨a, d, L, fnd, rfl, ⟨ys, ea, lv⟩, hl, ed, hk, hv, q⟩ := h
  have hu := hu_of hr
  have hyl := lv.len
  have hfl := hk.len
  refine ⟨_, pss_cons (ps_lock (ps_setDcP (i := 2) (o0 := .dK []) (own := [("at", 4)]) (g := gName 4) (tt := tYes) (tk := tVar 4) (tv := tC (.bl true)) hu (.inl rfl) rfl scTP.nd rfl rfl (sw_trueD rfl rfl rfl (by decide +kernel))
      (pi_values (pv 1)) (blkOk_by (N := nTP) (sc := defScope sTP) (by decide +kernel)) (fun _ _ _ _ _ => pg_name (i := 4) scTP.nd rfl (.inl rfl))
      (fun _ _ _ _ _ => pts_nil) (fun _ _ _ _ _ => pv 4) (fun _ _ _ _ _ => pe_bl)))
    (pss_cons (ps_set (i := 3) scTP.nd rfl (.inl rfl) (pe_lst pa_nil))
    (pss_cons (ps_for PassesOwn.never rfl (pi_enum (by rfl) T.enumerate (pa_cons (pv 0) pa_nil)) (pg_tup rfl (pgs_cons (pg_name (i := 4) scTP.nd rfl (.inl rfl)) (pgs_cons (pg_name (i := 5) scTP.nd rfl (.inl rfl)) pgs_nil)))
      (pss_one (ps_if (pt_cmp (pc_din hu (pv 4) (pv 1)))
        (pss_one (ps_expr (pe_bm PySem.F.plainAttrs_list PySem.F.slot_list_append PySem.F.type_list_append mt_append (pv 3) (pa_cons
          (pe_tup (pa_cons (pv 5) (pa_cons (pe_ix ix_list (pv 0) (pe_dget hu (pv 1) (pv 4) (by first | exact (fun _ _ => rfl) | (intros; rfl) | trivial)) (fun _ _ => rfl)) pa_nil))) pa_nil))))
        (pss_one (ps_if (pt_cmp (pc_dnotin hu (pv 4) (pv 2)))
          (pss_one (ps_expr (pe_bm PySem.F.plainAttrs_list PySem.F.slot_list_append PySem.F.type_list_append mt_append (pv 3) (pa_cons
            (pe_tup (pa_cons (pv 5) (pa_cons pe_non pa_nil))) pa_nil)))) pss_nil)))))
    (pss_one (ps_ret (pe_callTy call_tuple_of (by rfl) T.tuple (by decide +kernel) (pa_cons (pv 3) pa_nil)))))), ?_⟩
  refine ⟨d, _, ed, True.intro, fun od => ?_⟩
  have edL : (upd H d (.frz od (.dK (encM fnd)))) d = some (.frz od (.dK (encM fnd))) := upd_same
  refine ⟨_, rfl, d, od, _, rfl, edL, fun g ng => dc_it (walk_values (kvs := encM fnd)) (fun i H' => Same (upd H d (.frz od (.dK (encM fnd)))) H' ∧ ∃ G, H' g = some (.dK (encG G)) ∧ G.length ≤ i ∧ ∀ v, v ∈ G ↔ v ∈ (fnd.take i).map (·.2)) ⟨same_upd ng, [], upd_same, Nat.le_refl _, fun v => by simp⟩ (fun i H' _ p => p.1 _ _ edL) (fun i x H1 H2 hi p hy => ?_) fun H1 p => ?_⟩
  · obtain ⟨sm, G, eg, gl, gm⟩ := p
    obtain ⟨rfl, k, hk1⟩ := hy
    rw [encM_len] at hi
    obtain ⟨pr, hpr⟩ : ∃ pr, fnd[i]? = some pr := ⟨fnd[i], List.getElem?_eq_getElem hi⟩
    unfold encM at hk1
    rw [List.getElem?_map, hpr] at hk1
    obtain ⟨k1, k2⟩ := Prod.mk.inj (Option.some.inj hk1)
    refine ⟨rfl, _, rfl, ?_⟩
    have put := DPut.k (k := kN pr.2) (v := .bl true) eg (by rw [encG_len]; exact small1000 (by omega))
    rw [putK_encG] at put
    refine ⟨_, by rw [← k2]; exact put, fun b o e => by rw [upd_ne (ne_of_none e ng)]; exact sm _ _ e, _, upd_same, ?_, fun v => ?_⟩
    · unfold insN
      by_cases z : pr.2 ∈ G
      · rw [if_pos z]; omega
      · rw [if_neg z, List.length_append]
        show G.length + 1 ≤ _
        omega
    · rw [mem_insN, gm, List.take_add_one, hpr, List.map_append, List.mem_append]
      simp
  · obtain ⟨sm, G, eg, gl, gm⟩ := p
    refine ⟨sm _ _ edL, ?_⟩
    have ngd : g ≠ d := fun z => by rw [z, edL] at ng; cases ng
    have smA : Same H (upd H1 d (.dK (encM fnd))) := same_unlock ed sm
    have egA : (upd H1 d (.dK (encM fnd))) g = some (.dK (encG G)) := by rw [upd_ne ngd]; exact eg
    generalize upd H1 d (.dK (encM fnd)) = H2 at smA egA
    rw [encM_len, List.take_length] at gm
    refine ⟨by show 0 ≤ sizeLine; decide, fun c nc => ?_⟩
    have s1 : Same H2 (upd H2 c (.lst [])) := same_upd nc
    refine ⟨_, rfl, a, ys, rfl, SqL.of (s1 _ _ (smA _ _ ea)), for_it (walk_enum (xs := ys)) (fun i σ H' => ∃ y4 y5 zs, σ = [some (.ref a), some (.ref d), some (.ref g), some (.ref c), y4, y5] ∧ Same H2 H' ∧ H' c = some (.lst zs) ∧ RV IsTp H' zs (told L fnd i))
      ⟨none, none, [], rfl, s1, upd_same, RV.nil⟩ (fun i σ H' _ p => by obtain ⟨_, _, _, _, sm, _⟩ := p; exact SqL.of (sm _ _ (smA _ _ ea))) (fun i x σ H3 H4 hi pv hy => ?_) fun σ H3 pv => ?_⟩
    · obtain ⟨y4, y5, zs, rfl, s3, ec, rv⟩ := pv
      obtain ⟨U, x1, x2, rfl, nU, rfl, h1, h2⟩ := hy
      obtain ⟨s, es, b, rfl, hb⟩ := lv.at' i x2 h2
      cases h1
      have es' := nth_of es
      have s4 : Same H3 (upd H3 U (.tup [.int (i : Nat), .ref b])) := same_upd nU
      refine ⟨U, _, rfl, SqT.of upd_same, rfl, _, _, rfl, _, _, rfl, rfl, ?_⟩
      have smB := s3.trans s4
      have ec4 := s4 _ _ ec
      have rv4 := rv.tk IsTp.stb (same_tk s4)
      generalize upd H3 U (.tup [.int (i : Nat), .ref b]) = H4 at s4 smB ec4 rv4
      have hb4 := smB _ _ (smA _ _ hb)
      have ed4 := smB _ _ (smA _ _ ed)
      have eg4 := smB _ _ egA
      have zl := rv.len
      have tl := told_len L fnd i
      have app : ∀ (u : Addr) (y : V) (p : Tp), H4 u = none → ent L fnd i = some p → IsTp (upd H4 u (.tup [.ref b, y])) (.ref u) p → ∃ y4 y5 zs', ([some (.ref a), some (.ref d), some (.ref g), some (.ref c), some (.int (i : Nat)), some (.ref b)] : Sl) = [some (.ref a), some (.ref d), some (.ref g), some (.ref c), y4, y5] ∧
          Same H2 (upd (upd H4 u (.tup [.ref b, y])) c (.lst (zs ++ [.ref u]))) ∧ (upd (upd H4 u (.tup [.ref b, y])) c (.lst (zs ++ [.ref u]))) c = some (.lst zs') ∧ RV IsTp (upd (upd H4 u (.tup [.ref b, y])) c (.lst (zs ++ [.ref u]))) zs' (told L fnd (i + 1)) := fun u y p nu ee ip => by
        have s5 : Same H4 (upd H4 u (.tup [.ref b, y])) := same_upd nu
        refine ⟨_, _, _, rfl, fun b' o e => by rw [upd_ne (ne_of_none e nc)]; exact s5 _ _ (smB _ _ e), upd_same, ?_⟩
        rw [told_succ, ee]
        exact ((rv4.tk IsTp.stb (same_tk s5)).app (RV.one ip)).tk IsTp.stb (tk_lst (s5 _ _ ec4))
      have get : DGet H4 d (.int (i : Nat)) ((lk fnd i).map fun v : Nat => V.int (v : Nat)) := by
        rw [← valV_encM]
        exact DGet.k (k := kN i) ed4
      refine ⟨_, rfl, _, rfl, d, _, rfl, get, _, rfl, ?_⟩
      cases e : lk fnd i with
      | some j =>
        rw [e] at get
        have hj := hv i j e
        obtain ⟨y, ey, ⟨b2, rfl, hb2⟩⟩ := lv.get (nth_get hj)
        refine iteT ⟨_, rfl, .inl ⟨rfl, _, SqL.of ec4⟩, _, rfl, _, rfl, _, rfl, _, rfl, d, _, rfl, get, a, _, _, _, rfl, rfl, SqL.of (smB _ _ (smA _ _ ea)), atI_nat ey, by show 2 ≤ sizeLine; decide, fun u nu => ?_⟩
        have s5 : Same H4 (upd H4 u (.tup [.ref b, .ref b2])) := same_upd nu
        refine ⟨c, _, _, rfl, rfl, s5 _ _ ec4, small1000 (by omega), app u (.ref b2) (nth L i, some (nth L j)) nu (by unfold ent; rw [e]) ⟨u, _, _, rfl, upd_same, ⟨b, rfl, ?_⟩, ⟨b2, rfl, s5 _ _ (smB _ _ (smA _ _ hb2))⟩⟩⟩
        rw [es']
        exact s5 _ _ hb4
      | none =>
        refine iteF ⟨_, rfl, _, rfl, g, _, rfl, DGet.k (k := kN i) eg4, _, rfl, ?_⟩
        rw [valV_encG]
        by_cases hm : i ∈ G
        · rw [if_pos hm]
          refine iteF ⟨_, _, zs, rfl, smB, ec4, ?_⟩
          rw [told_succ]
          have : ent L fnd i = none := by unfold ent; rw [e, if_pos ((gm i).mp hm)]
          rw [this]
          simpa using rv4
        · rw [if_neg hm]
          refine iteT ⟨_, rfl, .inl ⟨rfl, _, SqL.of ec4⟩, _, rfl, by show 2 ≤ sizeLine; decide, fun u nu => ?_⟩
          have s5 : Same H4 (upd H4 u (.tup [.ref b, .non])) := same_upd nu
          refine ⟨c, _, _, rfl, rfl, s5 _ _ ec4, small1000 (by omega), app u .non (nth L i, none) nu (by unfold ent; rw [e, if_neg (fun z => hm ((gm i).mpr z))]) ⟨u, _, _, rfl, upd_same, ⟨b, rfl, ?_⟩, rfl⟩⟩
          rw [es']
          exact s5 _ _ hb4
    · obtain ⟨y4, y5, zs, rfl, s3, ec, rv⟩ := pv
      rw [hyl] at rv
      refine ⟨_, rfl, c, zs, rfl, .inl ⟨SqL.of ec, fun l nl => ?_⟩⟩
      exact q _ l zs (smA.trans (s3.trans (same_upd nl))) upd_same (rv.tk IsTp.stb (tk_new nl))
end
end G98
namespace G98
open PySem PySem.Spec PyProof.Rows L2
def ov : Option Nat → V
  | none => .non
  | some x => .int (x : Nat)
/-- a bar -/
def IsB (H : Hp) (z : V) (p : Bar) : Prop := ∃ q, z = .ref q ∧ H q = some (.tup [.int (p.1 : Nat), ov p.2])
theorem IsB.stb : Stb IsB := fun H H' z p k h => let ⟨q, e, h1⟩ := h; ⟨q, e, k _ _ h1⟩
def rI1 (p : Bar) : Int := if p.2.isNone then 1 else 0
def rI2 (p : Bar) : Int := ((p.2.getD 0 : Nat) : Int)
/-- a row that stands for a bar -/
def IsR (H : Hp) (z : V) (p : Bar) : Prop := ∃ q, z = .ref q ∧ H q = some (.tup [.int (p.1 : Nat), .int (rI1 p), .int (rI2 p)])
theorem IsR.stb : Stb IsR := fun H H' z p k h => let ⟨q, e, h1⟩ := h; ⟨q, e, k _ _ h1⟩
def encR (p : Bar) : PyData := .tuple [.int (p.1 : Nat), .int (rI1 p), .int (rI2 p)]
theorem encR_alike (a b : Bar) : PySem.W.alike (encR a) (encR b) = true := by
  unfold encR
  simp [PySem.W.alike, PySem.W.alikeAll]
theorem encR_depth (s : Bar) : (encR s).depth ≤ 50 := by
  unfold encR
  simp [PyData.depth, PyData.depthAll]
theorem IsR.dp {K : PySem.W.Frag} {H : Hp} {y : V} {s : Bar} (g : IsR H y s) : Dp K H y (encR s) := by
  obtain ⟨q, rfl, h1⟩ := g
  exact .tup (SqT.of h1) (.cons (.int _) (.cons (.int _) (.cons (.int _) .nil)))
theorem RV.mkm {α : Type} {rel : Hp → V → α → Prop} {H : Hp} {zs : List V} {as : List α} {n : Nat} (hz : zs.length = n) (ha : as.length = n) (h : ∀ (j : Nat) (z : V), zs[j]? = some z → ∃ a, as[j]? = some a ∧ rel H z a) : RV rel H zs as := ⟨by omega, h⟩
section
variable {P : Program} {w : World} {K : PySem.W.Frag} {mg : Str → Option Value} {base : Heap}
abbrev sSB : Stmt := topS 46
abbrev nSB : List Str := ["some", "rows", "begin", "end", "is_open"]
def spSB : Sp := fun vs H Q _ => ∃ (a : Addr) (zs : List V) (row : List Bar), vs = [.ref a] ∧ H a = some (.lst zs) ∧ RV IsB H zs row ∧ row.length ≤ 1000 ∧
  ∀ H' r zs' row', Same H H' → H' r = some (.tup zs') → RV IsB H' zs' row' → row'.Perm row → Q (.ref r) H'
theorem scSB : FnScope nSB ["some"] (defScope sSB) := ⟨rfl, rfl, rfl, by decide +kernel, rfl, by decide +kernel, by decide +kernel⟩
theorem ok_sb {f : Addr} {fd : FuncData} (T : Txt mg) (F : Fun K "sorted_bars" "sorted_bars" sSB f fd) : FnOk P w K mg base CX0 1 f fd ["some"] spSB := by
  refine F.ok scSB (fun vs H Q E h => ?_) (fun cdv A outer s0 H vs Q E hr h => ?_)
  · obtain ⟨a, zs, row, rfl, _⟩ := h
    rfl
  obtain ⟨a, zs, row, rfl, ea, rv, hl, q⟩ := h
  have zl := rv.len
  refine ⟨_, pss_cons (ps_set (i := 1) scSB.nd rfl (.inl rfl) (pe_callB (cr_srt hr.units) (by rfl) T.sorted (by decide +kernel) (pa_cons
      (pe_lc (own := [("begin", 2), ("end", 3)]) (g := gTup K 2 (gCons (gName 2) (gCons (gName 3) gNil))) (tt := tYes) rfl scSB.nd (pi_list (pv 0)) (blkOk_by (N := nSB) (sc := defScope sSB) (by decide +kernel))
        (fun _ _ _ _ _ => pg_tup rfl (pgs_cons (pg_name (i := 2) scSB.nd rfl (.inl rfl)) (pgs_cons (pg_name (i := 3) scSB.nd rfl (.inl rfl)) pgs_nil))) (fun _ _ _ _ _ => pts_nil)
        (fun _ _ _ _ _ => pe_tup (pa_cons (pv 2) (pa_cons (pe_callTy call_int1 (by rfl) T.int (by decide +kernel) (pa_cons (pe_cmp (pc_isN (pv 3))) pa_nil)) (pa_cons (pe_ifExp (pt_cmp (pc_notN (pv 3))) (pv 3) pe_int) pa_nil))))) pa_nil)))
    (pss_one (ps_ret (pe_callTy call_tuple_of (by rfl) T.tuple (by decide +kernel) (pa_cons
      (pe_lc (own := [("begin", 2), ("is_open", 4), ("end", 3)]) (g := gTup K 3 (gCons (gName 2) (gCons (gName 4) (gCons (gName 3) gNil)))) (tt := tYes) rfl scSB.nd (pi_list (pv 1)) (blkOk_by (N := nSB) (sc := defScope sSB) (by decide +kernel))
        (fun _ _ _ _ _ => pg_tup rfl (pgs_cons (pg_name (i := 2) scSB.nd rfl (.inl rfl)) (pgs_cons (pg_name (i := 4) scSB.nd rfl (.inl rfl)) (pgs_cons (pg_name (i := 3) scSB.nd rfl (.inl rfl)) pgs_nil)))) (fun _ _ _ _ _ => pts_nil)
        (fun _ _ _ _ _ => pe_tup (pa_cons (pv 2) (pa_cons (pe_ifExp (pt_cmpR op_eq (pv 4) pe_int (nomark _)) pe_non (pv 3)) pa_nil)))) pa_nil)))), ?_⟩
  refine ⟨_, rfl, a, rfl, ⟨_, SqL.of ea⟩, fun D hD => lc_map (walk_list (xs := zs)) (fun j y H => ∃ p, row[j]? = some p ∧ IsR H y p) (fun j y H1 H2 k g => let ⟨s, e, g⟩ := g; ⟨s, e, IsR.stb _ _ _ _ k g⟩) (fun H1 sm => SqL.of (sm _ _ ea)) (small1000 (by omega)) hD (fun j x H1 H2 R hj sm _ hy r => ?_) fun H1 ys sm eD hyl hy => ?_⟩
  · obtain ⟨rfl, hx⟩ := hy
    obtain ⟨p, ep, b, rfl, hb⟩ := rv.at' j x hx
    have hb2 := sm _ _ hb
    refine ⟨b, _, rfl, SqT.of hb2, rfl, _, _, rfl, _, _, rfl, rfl, rfl, ?_⟩
    obtain ⟨p1, p2⟩ := p
    cases p2 with
    | none => exact ⟨_, rfl, _, rfl, .inr ⟨true, rfl, _, rfl, _, rfl, iteF ⟨by show 3 ≤ sizeLine; decide, fun u nu => r _ _ (same_upd nu) ⟨_, ep, u, rfl, upd_same⟩⟩⟩⟩
    | some x => exact ⟨_, rfl, _, rfl, .inr ⟨false, rfl, _, rfl, _, rfl, iteT ⟨_, rfl, by show 3 ≤ sizeLine; decide, fun u nu => r _ _ (same_upd nu) ⟨_, ep, u, rfl, upd_same⟩⟩⟩⟩
  · obtain ⟨bs, ⟨b1, b2, b3, b4, b5, b6⟩, fs, hperm, hsrt, hzl, hz⟩ := srt_use (K := K) (as := row) encR (IsR H1) eD (by omega) hy (fun y a g => g.dp) encR_alike (fun a _ => ⟨_, _, rfl⟩) (fun a _ => encR_depth a) (small_line hl)
    refine ⟨D, bs, rfl, b1, b2, b3, b4, b5, b6, fun u nu => ?_⟩
    generalize hzs : srtd bs = us at hzl hz
    have hzs2 : (bs.mergeSort (PySem.W.dataLe false Prod.snd)).map Prod.fst = us := hzs
    rw [hzs2]
    have smB : Same H1 (upd H1 u (.lst us)) := same_upd nu
    have lfs : fs.length ≤ 1000 := by rw [hperm.length_eq]; exact hl
    refine ⟨_, rfl, u, rfl, ⟨_, SqL.of upd_same⟩, fun D2 hD2 => lc_map (walk_list (xs := us)) (fun j y H => ∃ p, fs[j]? = some p ∧ IsB H y p) (fun j y H1 H2 k g => let ⟨s, e, g⟩ := g; ⟨s, e, IsB.stb _ _ _ _ k g⟩) (fun H3 sm3 => SqL.of (sm3 _ _ upd_same)) (small1000 (by omega)) hD2
      (fun j x H3 H4 R hj sm3 _ hy r => ?_) fun H3 ws sm3 eD3 hwl hw => ?_⟩
    · obtain ⟨rfl, hx⟩ := hy
      obtain ⟨p, ep, b, rfl, hb⟩ := hz j x hx
      have hb2 := sm3 _ _ (smB _ _ hb)
      refine ⟨b, _, rfl, SqT.of hb2, rfl, _, _, rfl, _, _, rfl, _, _, rfl, rfl, rfl, ?_⟩
      obtain ⟨p1, p2⟩ := p
      cases p2 with
      | none => exact ⟨_, rfl, _, rfl, rfl, _, rfl, iteT ⟨by show 2 ≤ sizeLine; decide, fun v nv => r _ _ (same_upd nv) ⟨_, ep, v, rfl, upd_same⟩⟩⟩
      | some x => exact ⟨_, rfl, _, rfl, rfl, _, rfl, iteF ⟨_, rfl, by show 2 ≤ sizeLine; decide, fun v nv => r _ _ (same_upd nv) ⟨_, ep, v, rfl, upd_same⟩⟩⟩
    · refine ⟨D2, _, rfl, .inl ⟨SqL.of eD3, fun l nl => ?_⟩⟩
      exact q _ l ws fs (sm.trans (smB.trans (sm3.trans (same_upd nl)))) upd_same (RV.tk IsB.stb (tk_new nl) (RV.mkm hwl hzl.symm hw)) hperm
theorem Cplx.perm {ks fs : List (List Nat)} (h : Cplx ks) (p : fs.Perm ks) : Cplx fs := ⟨p.nodup_iff.mpr h.nod, fun s hs => h.sub s (p.mem_iff.mp hs), fun s hs hl q hq => p.mem_iff.mpr (h.down s (p.mem_iff.mp hs) hl q hq)⟩
abbrev sBars : Stmt := topS 47
abbrev nBars : List Str := ["filtration", "degree", "order", "found", "one", "other", "begin", "end"]
def spBars (C : Addr) : Sp := fun vs H Q _ => ∃ (p ck : Addr) (fs : List (List Nat)) (h : List Nat → Nat) (k : Nat), vs = [.ref p, .int (k : Nat)] ∧ FtAt C H p ck h fs ∧ Cplx fs ∧ k ≤ 7 ∧
  ∀ H' r zs row L col, Same H H' → H' r = some (.tup zs) → RV IsB H' zs row → L.Perm fs → (L.Pairwise fun x y => h x ≤ h y) → Red L List.length bdy (RR L col) → row.Perm ((BL L List.length (RR L col) h (k + 1)).filter nd) → Q (.ref r) H'
theorem scBars : FnScope nBars ["filtration", "degree"] (defScope sBars) := ⟨rfl, rfl, rfl, by decide +kernel, rfl, by decide +kernel, by decide +kernel⟩
theorem ok_bars {f C : Addr} {fd : FuncData} (T : Txt mg) (c : CF K mg C) (DN : Df P w K mg base 1 "need_filtration" ["value"] (spNF C)) (DD : Df P w K mg base 3 "need_degree" ["degree", "least"] spND) (DO : Df P w K mg base 1 "own_order" ["filtration"] (spOO C))
    (DP : Df P w K mg base 2 "places_of_pairs" ["order"] spPP) (DT : Df P w K mg base 1 "told_pairs" ["order", "places"] spTP) (DS : Df P w K mg base 1 "sorted_bars" ["some"] spSB) (F : Fun K "bars" "bars" sBars f fd) : FnOk P w K mg base CX0 4 f fd ["filtration", "degree"] (spBars C) := by
  refine F.ok scBars (fun vs H Q E h => ?_) (fun cdv A outer s0 H vs Q E hr h => ?_)
  · obtain ⟨p, ck, fs, h, k, rfl, _⟩ := h
    rfl
  obtain ⟨p, ck, fs, h, k, rfl, ft, hk, h7, q⟩ := h
  have hu := hu_of hr
  have h25 := hk.len
  refine ⟨_, pss_cons (ps_expr (pe_f DN hr (pa_cons (pv 0) pa_nil)))
    (pss_cons (ps_expr (pe_f DD hr (pa_cons (pv 1) (pa_cons pe_int pa_nil))))
    (pss_cons (ps_par (i := 2) (j := 3) rfl scBars.nd rfl rfl (by decide) rfl rfl (pa_cons (pe_f DO hr (pa_cons (pv 0) pa_nil)) (pa_cons (pe_lst pa_nil) pa_nil)) (by rfl))
    (pss_cons (ps_for PassesOwn.never rfl (pi_tup (pe_f DT hr (pa_cons (pv 2) (pa_cons (pe_f DP hr (pa_cons (pv 2) pa_nil)) pa_nil)))) (pg_tup rfl (pgs_cons (pg_name (i := 4) scBars.nd rfl (.inl rfl)) (pgs_cons (pg_name (i := 5) scBars.nd rfl (.inl rfl)) pgs_nil)))
      (pss_one (ps_if (pt_cmpR op_eq (pe_callB call_len_seq (by rfl) T.len PySem.boot_len (pa_cons (pv 4) pa_nil)) (pe_op op_add (pv 1) pe_int) (nomark _))
        (pss_cons (ps_par (i := 6) (j := 7) rfl scBars.nd rfl rfl (by decide) rfl rfl (pa_cons (pe_dget hu (pe_fld (pv 0) rfl) (pv 4) (by first | exact (fun _ _ => rfl) | (intros; rfl) | trivial)) (pa_cons (pe_ifExp (pt_cmp (pc_notN (pv 5))) (pe_dget hu (pe_fld (pv 0) rfl) (pv 5) (by first | exact (fun _ _ => rfl) | (intros; rfl) | trivial)) pe_non) pa_nil)) (by rfl))
        (pss_one (ps_if (pt_cmpR op_ne (pv 6) (pv 7) (nomark _))
          (pss_one (ps_expr (pe_bm PySem.F.plainAttrs_list PySem.F.slot_list_append PySem.F.type_list_append mt_append (pv 3) (pa_cons (pe_tup (pa_cons (pv 6) (pa_cons (pv 7) pa_nil))) pa_nil)))) pss_nil))) pss_nil)))
    (pss_one (ps_ret (pe_f DS hr (pa_cons (pv 3) pa_nil))))))), ?_⟩
  refine ⟨_, rfl, p, ck, h, fs, rfl, ft, ?_⟩
  refine ⟨_, rfl, _, _, rfl, ?_, ?_⟩
  · unfold inB
    rw [decide_eq_true (by omega), decide_eq_true (by omega)]
    rfl
  refine ⟨_, rfl, p, ck, fs, h, rfl, ft, by omega, fun H1 a L s1 na la hp hs => ?_⟩
  refine ⟨by show 0 ≤ sizeLine; decide, fun c0 nc0 => ⟨_, _, rfl, ?_⟩⟩
  have hkL := hk.perm hp
  have l25 := hkL.len
  have sA : Same H (upd H1 c0 (.lst [])) := s1.trans (same_upd nc0)
  have ncH : H c0 = none := s1.free nc0
  have la1 : LS (upd H1 c0 (.lst [])) a L := la.same (same_upd nc0)
  have ec0 : (upd H1 c0 (.lst [])) c0 = some (.lst []) := upd_same
  generalize upd H1 c0 (.lst []) = H2 at sA la1 ec0
  refine ⟨_, rfl, _, rfl, a, L, rfl, la1, hkL, fun H3 d col fnd s3 nd3 ed3 pp => ?_⟩
  refine ⟨a, d, L, fnd, rfl, la1.same s3, by omega, ed3, pp.key, fun p' v hv => (pp.bwd p' v hv).2.1, fun H4 r zs s4 er rv => ?_⟩
  have eb := told_BL hkL pp h (k + 1)
  have tl := told_len L fnd L.length
  have zl := rv.len
  have sB : Same H H4 := sA.trans (s3.trans s4)
  have ec4 := s4 _ _ (s3 _ _ ec0)
  have nr : r ≠ c0 := ne_of er ec4 (fun z => by cases z)
  let gf : Tp → Option Bar := fun p => if p.1.length = k + 1 then some (h p.1, p.2.map h) else none
  have ff := ft.2
  obtain ⟨⟨dx, cc, tt, ep⟩, eck⟩ := id ft
  refine ⟨r, rfl, ⟨_, SqT.of er⟩, for_tup (xs := zs) (fun i σ H' => ∃ y4 y5 y6 y7 bz, σ = [some (.ref p), some (.int (k : Nat)), some (.ref a), some (.ref c0), y4, y5, y6, y7] ∧ Same H H' ∧ Tk H4 H' ∧ H' c0 = some (.lst bz) ∧ RV IsB H' bz ((((told L fnd L.length).take i).filterMap gf).filter nd))
    ⟨none, none, none, none, [], rfl, sB, Tk.refl _, ec4, RV.nil⟩ (fun i σ H' _ pv => by obtain ⟨_, _, _, _, _, _, _, tk, _⟩ := pv; exact SqT.of (tk _ _ er)) (fun i x σ H5 hx pv => ?_) fun σ H5 pv => ?_⟩
  · obtain ⟨y4, y5, y6, y7, bz, rfl, sm, tk, ec5, rb⟩ := pv
    obtain ⟨tp1, et, u, x1, x2, rfl, hu5, is1, is2⟩ := rv.at' i x hx
    obtain ⟨s, o⟩ := tp1
    have hu5' := tk _ _ hu5
    obtain ⟨b, rfl, hb⟩ := is1.tk tk
    have hin : s ∈ L ∧ ∀ t, o = some t → t ∈ L := by
      have := List.mem_of_getElem? et
      obtain ⟨j, hj, e⟩ := List.mem_filterMap.mp this
      have hj := List.mem_range.mp hj
      unfold ent at e
      cases ee : lk fnd j with
      | some v =>
        rw [ee] at e
        cases e
        exact ⟨nth_mem hj, fun t ht => by cases ht; exact nth_mem (pp.bwd _ _ ee).2.1⟩
      | none =>
        rw [ee] at e
        by_cases z : j ∈ fnd.map (·.2)
        · have e : (if j ∈ fnd.map (·.2) then none else some (nth L j, none)) = some (s, o) := e
          rw [if_pos z] at e
          cases e
        · have e : (if j ∈ fnd.map (·.2) then none else some (nth L j, none)) = some (s, o) := e
          rw [if_neg z] at e
          cases e
          exact ⟨nth_mem hj, fun t ht => by cases ht⟩
    have tk1 : (told L fnd L.length).take (i + 1) = (told L fnd L.length).take i ++ [(s, o)] := by rw [List.take_add_one, et]; rfl
    have bl : bz.length ≤ 1000 := by
      rw [rb.len]
      have h1 := List.length_filter_le nd (((told L fnd L.length).take i).filterMap gf)
      have h2 := List.length_filterMap_le gf ((told L fnd L.length).take i)
      rw [List.length_take] at h2
      omega
    have i2 : i < 1000 := by
      have := (List.getElem?_eq_some_iff.mp hx).1
      omega
    refine ⟨u, _, rfl, SqT.of hu5', rfl, _, _, rfl, _, _, rfl, rfl, ?_⟩
    refine ⟨_, rfl, b, _, rfl, .inr (SqT.of hb), _, rfl, _, _, rfl, rfl, rfl, _, rfl, ?_⟩
    rw [dec_int, iv_len]
    by_cases hl : s.length = k + 1
    · have e1 : (((s.length : Int)) == ((k : Int) + 1)) = true := by simp; omega
      rw [e1]
      have g1 : DGet H5 ck (.ref b) (some (.int (h s : Nat))) := by
        rw [← valV_clk (h := h) (hp.mem_iff.mp hin.1)]
        exact DGet.t (sm _ _ eck) (by rw [kk_kV]; exact hb)
      have eg : gf (s, o) = some (h s, o.map h) := if_pos hl
      have app : ∀ (bar : Bar), gf (s, o) = some bar → nd bar = true → ∀ u2, H5 u2 = none → ∀ y7, Same H (upd (upd H5 u2 (.tup [.int (bar.1 : Nat), ov bar.2])) c0 (.lst (bz ++ [.ref u2]))) ∧ (∃ y4' y5' y6' y7' bz', ([some (.ref p), some (.int (k : Nat)), some (.ref a), some (.ref c0), some (.ref b), some x2, some (.int (h s : Nat)), y7] : Sl) = [some (.ref p), some (.int (k : Nat)), some (.ref a), some (.ref c0), y4', y5', y6', y7'] ∧
          Same H (upd (upd H5 u2 (.tup [.int (bar.1 : Nat), ov bar.2])) c0 (.lst (bz ++ [.ref u2]))) ∧ Tk H4 (upd (upd H5 u2 (.tup [.int (bar.1 : Nat), ov bar.2])) c0 (.lst (bz ++ [.ref u2]))) ∧ (upd (upd H5 u2 (.tup [.int (bar.1 : Nat), ov bar.2])) c0 (.lst (bz ++ [.ref u2]))) c0 = some (.lst bz') ∧
          RV IsB (upd (upd H5 u2 (.tup [.int (bar.1 : Nat), ov bar.2])) c0 (.lst (bz ++ [.ref u2]))) bz' ((((told L fnd L.length).take (i + 1)).filterMap gf).filter nd)) := fun bar eg hnd u2 nu2 y7 => by
        have s6 : Same H5 (upd H5 u2 (.tup [.int (bar.1 : Nat), ov bar.2])) := same_upd nu2
        have sC : Same H (upd (upd H5 u2 (.tup [.int (bar.1 : Nat), ov bar.2])) c0 (.lst (bz ++ [.ref u2]))) := fun b' o' e => by rw [upd_ne (ne_of_none e ncH)]; exact s6 _ _ (sm _ _ e)
        refine ⟨sC, _, _, _, _, _, rfl, sC, tk.trans ((same_tk s6).trans (tk_lst (s6 _ _ ec5))), upd_same, ?_⟩
        rw [tk1, List.filterMap_append, List.filterMap_cons_some eg, List.filter_append, List.filterMap_nil, List.filter_cons_of_pos hnd, List.filter_nil]
        exact ((rb.tk IsB.stb (same_tk s6)).app (RV.one ⟨u2, rfl, upd_same⟩)).tk IsB.stb (tk_lst (s6 _ _ ec5))
      have b1000 : bz.length < sizeLine := small1000 bl
      have ep5 := sm _ _ ep
      cases o with
      | none =>
        have is2 : x2 = .non := is2
        subst is2
        refine iteT ⟨_, rfl, p, C, dx, _, _, rfl, ep5, c.cl, c.nC, clock_at _ _ _, _, rfl, ck, _, rfl, g1, _, rfl, _, rfl, iteF ⟨_, _, rfl, ?_⟩⟩
        refine ⟨_, rfl, _, rfl, rfl, _, rfl, iteT ⟨_, rfl, .inl ⟨rfl, _, SqL.of ec5⟩, _, rfl, _, rfl, by show 2 ≤ sizeLine; decide, fun u2 nu2 => ?_⟩⟩
        exact ⟨c0, _, _, rfl, rfl, (same_upd nu2) _ _ ec5, b1000, (app (h s, none) (if_pos hl) rfl u2 nu2 _).2⟩
      | some t =>
        obtain ⟨b2, rfl, hb2⟩ := IsS.tk tk (show IsS H4 x2 t from is2)
        have g2 : DGet H5 ck (.ref b2) (some (.int (h t : Nat))) := by
          rw [← valV_clk (h := h) (hp.mem_iff.mp (hin.2 t rfl))]
          exact DGet.t (sm _ _ eck) (by rw [kk_kV]; exact hb2)
        refine iteT ⟨_, rfl, p, C, dx, _, _, rfl, ep5, c.cl, c.nC, clock_at _ _ _, _, rfl, ck, _, rfl, g1, _, rfl, _, rfl, iteT ⟨_, rfl, p, C, dx, _, _, rfl, ep5, c.cl, c.nC, clock_at _ _ _, _, rfl, ck, _, rfl, g2, _, _, rfl, ?_⟩⟩
        refine ⟨_, rfl, _, rfl, rfl, _, rfl, ?_⟩
        rw [dec_int]
        by_cases hh : h s = h t
        · have e2 : (!((h s : Int) == (h t : Int))) = false := by simp [hh]
          rw [e2]
          refine iteF ⟨_, _, _, _, bz, rfl, sm, tk, ec5, ?_⟩
          have eg : gf (s, some t) = some (h s, some (h t)) := if_pos hl
          have en : ¬ nd (h s, some (h t)) = true := by unfold nd; simp [hh]
          rw [tk1, List.filterMap_append, List.filterMap_cons_some eg, List.filter_append, List.filterMap_nil, List.filter_cons_of_neg en, List.filter_nil, List.append_nil]
          exact rb
        · have e2 : (!((h s : Int) == (h t : Int))) = true := by simp; omega
          rw [e2]
          refine iteT ⟨_, rfl, .inl ⟨rfl, _, SqL.of ec5⟩, _, rfl, _, rfl, by show 2 ≤ sizeLine; decide, fun u2 nu2 => ?_⟩
          exact ⟨c0, _, _, rfl, rfl, (same_upd nu2) _ _ ec5, b1000, (app (h s, some (h t)) (if_pos hl) (by unfold nd; simp; omega) u2 nu2 _).2⟩
    · have e1 : (((s.length : Int)) == ((k : Int) + 1)) = false := by
        rw [Bool.eq_false_iff]
        simp
        omega
      rw [e1]
      refine iteF ⟨_, _, _, _, bz, rfl, sm, tk, ec5, ?_⟩
      rw [tk1, List.filterMap_append]
      have eg : gf (s, o) = none := if_neg hl
      rw [List.filterMap_cons_none eg]
      simpa using rb
  · obtain ⟨y4, y5, y6, y7, bz, rfl, sm, tk, ec5, rb⟩ := pv
    rw [zl, List.take_length] at rb
    have eb2 : (told L fnd L.length).filterMap gf = BL L List.length (RR L col) h (k + 1) := eb
    rw [eb2] at rb
    refine ⟨_, rfl, c0, bz, _, rfl, ec5, rb, ?_, fun H6 r2 zs2 row2 s6 er2 rv2 pr => ?_⟩
    · have h1 := List.length_filter_le nd (BL L List.length (RR L col) h (k + 1))
      rw [← eb2] at h1
      have h2 := List.length_filterMap_le gf (told L fnd L.length)
      rw [← eb2]
      omega
    · exact q H6 r2 zs2 row2 L col (sm.trans s6) er2 rv2 hp hs (pp.red hkL) pr
end
end G98
namespace G98
open PySem PySem.Spec PyProof.Rows L2
/-- a bar as it must be -/
structure BarOk (p : Bar) : Prop where
  lo : p.1 ≤ 1000
  hi : ∀ x, p.2 = some x → p.1 < x ∧ x ≤ 1000
/-- a bar or None -/
def IsOB (H : Hp) (z : V) (p : Option Bar) : Prop := match p with | none => z = .non | some b => IsB H z b
theorem IsOB.stb : Stb IsOB := fun H H' z p k h => by
  cases p with
  | none => exact h
  | some b => exact IsB.stb _ _ _ _ k h
section
variable {P : Program} {w : World} {K : PySem.W.Frag} {mg : Str → Option Value} {base : Heap}
abbrev sIsBar : Stmt := topS 33
def spIsBar : Sp := fun vs H Q _ => ∃ (z : V) (p : Bar), vs = [z] ∧ IsB H z p ∧ BarOk p ∧ Q (.bl true) H
theorem scIsBar : FnScope ["value"] ["value"] (defScope sIsBar) := ⟨rfl, rfl, rfl, by decide +kernel, rfl, by decide +kernel, by decide +kernel⟩
theorem ok_is_bar {f : Addr} {fd : FuncData} (T : Txt mg) (DL : Df P w K mg base 1 "is_list" ["value", "least", "most"] spIsList) (DT : Df P w K mg base 3 "is_time" ["value"] spIsTime) (F : Fun K "is_bar" "is_bar" sIsBar f fd) : FnOk P w K mg base CX0 4 f fd ["value"] spIsBar := by
  refine F.ok scIsBar (fun vs H Q E h => ?_) (fun cdv A outer s0 H vs Q E hr h => ?_)
  · obtain ⟨z, p, rfl, _⟩ := h
    rfl
  obtain ⟨z, p, rfl, ⟨t, rfl, et⟩, ok, q⟩ := h
  refine ⟨_, pss_cons (ps_if (PW.pt (pw_or (pt_not (pt_val (pe_f DL hr (pa_cons (pv 0) (pa_cons pe_int (pa_cons pe_int pa_nil)))))) (pw_or1 (pt_not (pt_val (pe_f DT hr (pa_cons (pe_ix ix_tup (pv 0) pe_int (fun _ _ => rfl)) pa_nil)))))))
      (pss_one ps_never) pss_nil)
    (pss_one (ps_ret (pe_or (pe_cmp (pc_isN (pe_ix ix_tup (pv 0) pe_int (fun _ _ => rfl)))) (pe_one (pe_and (pe_f DT hr (pa_cons (pe_ix ix_tup (pv 0) pe_int (fun _ _ => rfl)) pa_nil)) (pe_one (pe_cmpR op_lt (pe_ix ix_tup (pv 0) pe_int (fun _ _ => rfl)) (pe_ix ix_tup (pv 0) pe_int (fun _ _ => rfl)) (nomark _)))))))), ?_⟩
  have h1 := ok.lo
  refine ⟨_, rfl, t, _, 2, 2, rfl, et, true, rfl, iteF ?_⟩
  refine ⟨_, rfl, t, _, 0, _, rfl, rfl, SqT.of et, atI_nat (j := 0) rfl, _, rfl, true, ?_, iteF ?_⟩
  · unfold inB
    rw [decide_eq_true (by omega), decide_eq_true (by omega)]
    rfl
  obtain ⟨p1, p2⟩ := p
  cases p2 with
  | none => exact ⟨_, rfl, t, _, 1, _, rfl, rfl, SqT.of et, atI_nat (j := 1) rfl, true, rfl, iteT q⟩
  | some x =>
    obtain ⟨h2, h3⟩ := ok.hi x rfl
    have h1 : p1 ≤ 1000 := h1
    have h2 : p1 < x := h2
    refine ⟨_, rfl, t, _, 1, _, rfl, rfl, SqT.of et, atI_nat (j := 1) rfl, false, rfl, iteF ?_⟩
    refine ⟨_, rfl, t, _, 1, _, rfl, rfl, SqT.of et, atI_nat (j := 1) rfl, _, rfl, true, ?_, iteT ?_⟩
    · unfold inB
      rw [decide_eq_true (by omega), decide_eq_true (by omega)]
      rfl
    refine ⟨_, rfl, t, _, 0, _, rfl, rfl, SqT.of et, atI_nat (j := 0) rfl, _, rfl, t, _, 1, _, rfl, rfl, SqT.of et, atI_nat (j := 1) rfl, _, _, rfl, rfl, ?_⟩
    have e : decide ((p1 : Int) < (x : Int)) = true := decide_eq_true (by omega)
    show Q (.bl (decide ((p1 : Int) < (x : Int)))) H
    rw [e]
    exact q
abbrev sNB : Stmt := topS 34
def spNB : Sp := fun vs H Q _ => ∃ (t : Addr) (zs : List V) (row : List Bar), vs = [.ref t] ∧ H t = some (.tup zs) ∧ RV IsB H zs row ∧ row.length ≤ 12 ∧ (∀ p ∈ row, BarOk p) ∧ ∀ H', Same H H' → Q .non H'
theorem scNB : FnScope ["value", "index", "bar"] ["value"] (defScope sNB) := ⟨rfl, rfl, rfl, by decide +kernel, rfl, by decide +kernel, by decide +kernel⟩
theorem ok_nb {f : Addr} {fd : FuncData} (T : Txt mg) (DL : Df P w K mg base 1 "is_list" ["value", "least", "most"] spIsList) (DB : Df P w K mg base 4 "is_bar" ["value"] spIsBar) (F : Fun K "need_bars" "need_bars" sNB f fd) : FnOk P w K mg base CX0 5 f fd ["value"] spNB := by
  refine F.ok scNB (fun vs H Q E h => ?_) (fun cdv A outer s0 H vs Q E hr h => ?_)
  · obtain ⟨z, p, row, rfl, _⟩ := h
    rfl
  obtain ⟨t, zs, row, rfl, et, rv, hl, hok, q⟩ := h
  have zl := rv.len
  refine ⟨_, pss_cons (ps_if (pt_not (pt_val (pe_f DL hr (pa_cons (pv 0) (pa_cons pe_int (pa_cons (pe_k T.mostB) pa_nil)))))) (pss_one ps_never) pss_nil)
    (pss_one (ps_for PassesOwn.never rfl (pi_enumT (by rfl) T.enumerate (pa_cons (pv 0) pa_nil)) (pg_tup rfl (pgs_cons (pg_name (i := 1) scNB.nd rfl (.inl rfl)) (pgs_cons (pg_name (i := 2) scNB.nd rfl (.inl rfl)) pgs_nil)))
      (pss_one (ps_if (pt_not (pt_val (pe_f DB hr (pa_cons (pv 2) pa_nil)))) (pss_one ps_never) pss_nil)))), ?_⟩
  refine ⟨_, rfl, t, zs, 0, 12, rfl, et, true, ?_, iteF ?_⟩
  · unfold inB
    rw [decide_eq_true (by omega), decide_eq_true (by omega)]
    rfl
  refine ⟨_, rfl, t, zs, rfl, SqT.of et, for_it (walk_enumT (xs := zs)) (fun i σ H' => ∃ y2 y3, σ = [some (.ref t), y2, y3] ∧ Same H H') ⟨none, none, rfl, Same.refl _⟩ (fun i σ H' _ p => by obtain ⟨_, _, _, sm⟩ := p; exact SqT.of (sm _ _ et)) (fun i x σ H1 H2 hi pv hy => ?_) fun σ H' pv => ?_⟩
  · obtain ⟨y2, y3, rfl, sm⟩ := pv
    obtain ⟨U, x1, x2, rfl, nU, rfl, h1, h2⟩ := hy
    obtain ⟨p, ep, ib⟩ := rv.at' i x2 h2
    have s1 : Same H1 (upd H1 U (.tup [x1, x2])) := same_upd nU
    refine ⟨U, _, rfl, SqT.of upd_same, rfl, _, _, rfl, _, _, rfl, rfl, ?_⟩
    exact ⟨_, rfl, x2, p, rfl, IsB.stb _ _ _ _ (same_tk (sm.trans s1)) ib, hok p (List.mem_of_getElem? ep), true, rfl, iteF ⟨_, _, rfl, sm.trans s1⟩⟩
  · obtain ⟨y2, y3, rfl, sm⟩ := pv
    exact q H' sm
theorem abs_dst (a b : Nat) : (if ((a : Int) - (b : Int)) < 0 then -((a : Int) - (b : Int)) else (a : Int) - (b : Int)) = (dst a b : Nat) := by
  unfold dst
  split <;> omega
theorem max_nat (a b : Nat) : (if (b : Int) > (a : Int) then (b : Int) else (a : Int)) = ((max a b : Nat) : Int) := by
  split <;> omega
abbrev sCost : Stmt := topS 35
abbrev nCost : List Str := ["bar", "other", "some", "ends"]
def spCost : Sp := fun vs H Q _ => ∃ (y z : V) (p q : Option Bar), vs = [y, z] ∧ IsOB H y p ∧ IsOB H z q ∧ (∀ b, p = some b → BarOk b) ∧ (∀ b, q = some b → BarOk b) ∧ ¬ (p = none ∧ q = none) ∧ Q (ov (cst p q)) H
theorem scCost : FnScope nCost ["bar", "other"] (defScope sCost) := ⟨rfl, rfl, rfl, by decide +kernel, rfl, by decide +kernel, by decide +kernel⟩
theorem ok_cost {f : Addr} {fd : FuncData} (T : Txt mg) (F : Fun K "cost" "cost" sCost f fd) : FnOk P w K mg base CX0 1 f fd ["bar", "other"] spCost := by
  refine F.ok scCost (fun vs H Q E h => ?_) (fun cdv A outer s0 H vs Q E hr h => ?_)
  · obtain ⟨y, z, p, q, rfl, _⟩ := h
    rfl
  obtain ⟨y, z, p, q, rfl, iy, iz, okp, okq, nn, qq⟩ := h
  refine ⟨_, pss_cons (ps_if (PW.pt (pw_or (pt_cmp (pc_isN (pv 0))) (pw_or1 (pt_cmp (pc_isN (pv 1))))))
      (pss_cons (ps_set (i := 2) scCost.nd rfl (.inl rfl) (pe_ifExp (pt_cmp (pc_isN (pv 0))) (pv 1) (pv 0)))
        (pss_one (ps_ret (pe_ifExp (pt_cmp (pc_isN (pe_ix ix_tup (pv 2) pe_int (fun _ _ => rfl)))) pe_non (pe_op op_sub (pe_ix ix_tup (pv 2) pe_int (fun _ _ => rfl)) (pe_ix ix_tup (pv 2) pe_int (fun _ _ => rfl))))))) pss_nil)
    (pss_cons (ps_if (pt_cmpR op_ne (pe_cmp (pc_isN (pe_ix ix_tup (pv 0) pe_int (fun _ _ => rfl)))) (pe_cmp (pc_isN (pe_ix ix_tup (pv 1) pe_int (fun _ _ => rfl)))) (nomark _)) (pss_one (ps_ret pe_non)) pss_nil)
    (pss_cons (ps_set (i := 3) scCost.nd rfl (.inl rfl) (pe_ifExp (pt_cmp (pc_isN (pe_ix ix_tup (pv 0) pe_int (fun _ _ => rfl)))) pe_int
        (pe_callB call_abs (by rfl) T.abs (by decide +kernel) (pa_cons (pe_op op_sub (pe_ix ix_tup (pv 0) pe_int (fun _ _ => rfl)) (pe_ix ix_tup (pv 1) pe_int (fun _ _ => rfl))) pa_nil))))
    (pss_one (ps_ret (pe_op op_mulN pe_int (pe_callB (call_max2 rfl) (by rfl) T.max (by decide +kernel) (pa_cons (pe_callB call_abs (by rfl) T.abs (by decide +kernel) (pa_cons (pe_op op_sub (pe_ix ix_tup (pv 0) pe_int (fun _ _ => rfl)) (pe_ix ix_tup (pv 1) pe_int (fun _ _ => rfl))) pa_nil)) (pa_cons (pv 3) pa_nil)))))))), ?_⟩
  cases p with
  | none =>
    have iy : y = .non := iy
    subst iy
    cases q with
    | none => exact absurd ⟨rfl, rfl⟩ nn
    | some b =>
      obtain ⟨t, rfl, et⟩ := iz
      have ok := okq b rfl
      obtain ⟨b1, b2⟩ := b
      refine ⟨_, rfl, _, rfl, iteT (iteT ⟨_, rfl, _, rfl, iteT ⟨_, rfl, ?_⟩⟩)⟩
      refine ⟨_, rfl, t, _, 1, _, rfl, rfl, SqT.of et, atI_nat (j := 1) rfl, _, rfl, ?_⟩
      cases b2 with
      | none => exact iteT qq
      | some x =>
        obtain ⟨h2, _⟩ := ok.hi x rfl
        have h2 : b1 < x := h2
        refine iteF ⟨_, rfl, t, _, 1, _, rfl, rfl, SqT.of et, atI_nat (j := 1) rfl, _, rfl, t, _, 0, _, rfl, rfl, SqT.of et, atI_nat (j := 0) rfl, _, _, rfl, rfl, ?_⟩
        have e : ov (cst none (some (b1, some x))) = .int ((x : Int) - (b1 : Int)) := by
          show V.int ((x - b1 : Nat) : Int) = _
          rw [Int.ofNat_sub (by omega)]
        rw [e] at qq
        exact qq
  | some b =>
    obtain ⟨t, rfl, et⟩ := iy
    have ok := okp b rfl
    obtain ⟨b1, b2⟩ := b
    cases q with
    | none =>
      have iz : z = .non := iz
      subst iz
      refine ⟨_, rfl, _, rfl, iteF ⟨_, rfl, _, rfl, iteT ⟨_, rfl, _, rfl, iteF ⟨_, rfl, ?_⟩⟩⟩⟩
      refine ⟨_, rfl, t, _, 1, _, rfl, rfl, SqT.of et, atI_nat (j := 1) rfl, _, rfl, ?_⟩
      cases b2 with
      | none => exact iteT qq
      | some x =>
        obtain ⟨h2, _⟩ := ok.hi x rfl
        have h2 : b1 < x := h2
        refine iteF ⟨_, rfl, t, _, 1, _, rfl, rfl, SqT.of et, atI_nat (j := 1) rfl, _, rfl, t, _, 0, _, rfl, rfl, SqT.of et, atI_nat (j := 0) rfl, _, _, rfl, rfl, ?_⟩
        have e : ov (cst (some (b1, some x)) none) = .int ((x : Int) - (b1 : Int)) := by
          show V.int ((x - b1 : Nat) : Int) = _
          rw [Int.ofNat_sub (by omega)]
        rw [e] at qq
        exact qq
    | some c =>
      obtain ⟨u, rfl, eu⟩ := iz
      obtain ⟨c1, c2⟩ := c
      refine ⟨_, rfl, _, rfl, iteF ⟨_, rfl, _, rfl, iteF ?_⟩⟩
      refine ⟨_, rfl, t, _, 1, _, rfl, rfl, SqT.of et, atI_nat (j := 1) rfl, _, rfl, u, _, 1, _, rfl, rfl, SqT.of eu, atI_nat (j := 1) rfl, ?_⟩
      cases b2 with
      | none =>
        cases c2 with
        | some y => exact ⟨rfl, _, rfl, iteT qq⟩
        | none =>
          refine ⟨rfl, _, rfl, iteF ?_⟩
          refine ⟨_, rfl, t, _, 1, _, rfl, rfl, SqT.of et, atI_nat (j := 1) rfl, _, rfl, iteT ?_⟩
          refine ⟨_, rfl, t, _, 0, _, rfl, rfl, SqT.of et, atI_nat (j := 0) rfl, _, rfl, u, _, 0, _, rfl, rfl, SqT.of eu, atI_nat (j := 0) rfl, _, _, rfl, rfl, _, rfl, ?_⟩
          rw [abs_dst]
          refine ⟨_, rfl, _, _, rfl, ?_⟩
          have e0 : (0 : Int) = ((0 : Nat) : Int) := rfl
          rw [e0, max_nat]
          exact ⟨2, _, rfl, rfl, by decide, qq⟩
      | some x =>
        cases c2 with
        | none => exact ⟨rfl, _, rfl, iteT qq⟩
        | some y =>
          refine ⟨rfl, _, rfl, iteF ?_⟩
          refine ⟨_, rfl, t, _, 1, _, rfl, rfl, SqT.of et, atI_nat (j := 1) rfl, _, rfl, iteF ?_⟩
          refine ⟨_, rfl, t, _, 1, _, rfl, rfl, SqT.of et, atI_nat (j := 1) rfl, _, rfl, u, _, 1, _, rfl, rfl, SqT.of eu, atI_nat (j := 1) rfl, _, _, rfl, rfl, _, rfl, ?_⟩
          rw [abs_dst]
          refine ⟨_, rfl, t, _, 0, _, rfl, rfl, SqT.of et, atI_nat (j := 0) rfl, _, rfl, u, _, 0, _, rfl, rfl, SqT.of eu, atI_nat (j := 0) rfl, _, _, rfl, rfl, _, rfl, ?_⟩
          rw [abs_dst]
          refine ⟨_, rfl, _, _, rfl, ?_⟩
          rw [max_nat]
          exact ⟨2, _, rfl, rfl, by decide, qq⟩
abbrev sNear : Stmt := topS 36
def spNear : Sp := fun vs H Q _ => ∃ (y z : V) (d : Nat) (p q : Option Bar), vs = [y, z, .int (d : Nat)] ∧ IsOB H y p ∧ IsOB H z q ∧ (∀ b, p = some b → BarOk b) ∧ (∀ b, q = some b → BarOk b) ∧ Q (.bl (nr d p q)) H
theorem scNear : FnScope ["bar", "other", "doubled", "far"] ["bar", "other", "doubled"] (defScope sNear) := ⟨rfl, rfl, rfl, by decide +kernel, rfl, by decide +kernel, by decide +kernel⟩
theorem ok_near {f : Addr} {fd : FuncData} (DC : Df P w K mg base 1 "cost" ["bar", "other"] spCost) (F : Fun K "is_near" "is_near" sNear f fd) : FnOk P w K mg base CX0 2 f fd ["bar", "other", "doubled"] spNear := by
  refine F.ok scNear (fun vs H Q E h => ?_) (fun cdv A outer s0 H vs Q E hr h => ?_)
  · obtain ⟨y, z, d, p, q, rfl, _⟩ := h
    rfl
  obtain ⟨y, z, d, p, q, rfl, iy, iz, okp, okq, qq⟩ := h
  refine ⟨_, pss_cons (ps_if (PW.pt (pw_and (pt_cmp (pc_isN (pv 0))) (pw_and1 (pt_cmp (pc_isN (pv 1)))))) (pss_one (ps_ret pe_bl)) pss_nil)
    (pss_cons (ps_set (i := 3) scNear.nd rfl (.inl rfl) (pe_f DC hr (pa_cons (pv 0) (pa_cons (pv 1) pa_nil))))
    (pss_one (ps_ret (pe_and (pe_cmp (pc_notN (pv 3))) (pe_one (pe_cmpR op_le (pv 3) (pv 2) (nomark _))))))), ?_⟩
  have main : ¬ (p = none ∧ q = none) → tSeq (tAsg (tCall spCost [] E0 (tCons (tVar 0) (tCons (tVar 1) tNil))) (gName 3)) (tRet (tAndV (tNotN (tVar 3)) (tOp (rI0 fun i j => .bl (decide (i ≤ j))) (tVar 3) (tVar 2)))) { nx := fun x H' => Q .non H', rt := Q } [some y, some z, some (.int (d : Nat)), none] H := fun nn => by
    refine ⟨_, rfl, _, rfl, y, z, p, q, rfl, iy, iz, okp, okq, nn, ?_⟩
    have en : nr d p q = (match cst p q with | some c => decide (c ≤ d) | none => false) := by
      unfold nr
      cases p with
      | none =>
        cases q with
        | none => exact absurd ⟨rfl, rfl⟩ nn
        | some _ => rfl
      | some _ => cases q <;> rfl
    rw [en] at qq
    refine ⟨_, rfl, _, rfl, ?_⟩
    cases e : cst p q with
    | none =>
      rw [e] at qq
      exact iteF qq
    | some c =>
      rw [e] at qq
      refine iteT ⟨_, rfl, _, rfl, _, _, rfl, rfl, ?_⟩
      have e2 : decide ((c : Int) ≤ (d : Int)) = decide (c ≤ d) := by
        rw [Bool.eq_iff_iff, decide_eq_true_eq, decide_eq_true_eq]
        omega
      show Q (.bl (decide ((c : Int) ≤ (d : Int)))) H
      rw [e2]
      exact qq
  cases p with
  | none =>
    have iy : y = .non := iy
    subst iy
    cases q with
    | none =>
      have iz : z = .non := iz
      subst iz
      exact ⟨_, rfl, _, rfl, iteT ⟨_, rfl, _, rfl, iteT qq⟩⟩
    | some b =>
      obtain ⟨u, rfl, _⟩ := id iz
      exact ⟨_, rfl, _, rfl, iteT ⟨_, rfl, _, rfl, iteF (main fun z => by cases z.2)⟩⟩
  | some b =>
    obtain ⟨u, rfl, _⟩ := id iy
    exact ⟨_, rfl, _, rfl, iteF (iteF (main fun z => by cases z.1))⟩
end
end G98
namespace G98
open PySem PySem.Spec PyProof.Rows L2
/-! ### mates: what the walk must know of them -/
structure MSt (n : Nat) (L : Mt) (T : List Nat) : Prop where
  k : KOk n L
  g : GOk n T
  v : ∀ a p, lk L a = some p → p < n
theorem MSt.put {n : Nat} {L : Mt} {T : List Nat} (h : MSt n L T) {a p : Nat} (ha : a < n) (hp : p < n) : MSt n (pt L a p) T := ⟨h.k.pt ha p, h.g, fun b q e => by
  rw [lk_pt] at e
  by_cases z : b = a
  · rw [if_pos z] at e
    cases e
    exact hp
  · rw [if_neg z] at e
    exact h.v b q e⟩
theorem lup_st {near : Nat → Nat → Bool} {n : Nat} {rec : Nat → Mt → List Nat → Got} (hr : ∀ p L T, p < n → MSt n L T → MSt n (rec p L T).2.1 (rec p L T).2.2 ∧ T.length ≤ (rec p L T).2.2.length) {place : Nat} (hp : place < n) :
    ∀ (as : List Nat) (L : Mt) (T : List Nat), (∀ a ∈ as, a < n) → MSt n L T → MSt n (lup near rec place as L T).2.1 (lup near rec place as L T).2.2 ∧ T.length ≤ (lup near rec place as L T).2.2.length
  | [], L, T, _, h => ⟨h, Nat.le_refl _⟩
  | a :: as, L, T, ha, h => by
    have ha0 := ha a List.mem_cons_self
    have has : ∀ b ∈ as, b < n := fun b hb => ha b (List.mem_cons_of_mem _ hb)
    unfold lup
    by_cases c : (T.contains a || !near place a) = true
    · rw [if_pos c]
      exact lup_st hr hp as L T has h
    · rw [if_neg c]
      have hT : a ∉ T := fun z => c (by simp [z])
      have g2 : MSt n L (T ++ [a]) := ⟨h.k, h.g.app ha0 hT, h.v⟩
      cases e : lk L a with
      | none => exact ⟨g2.put ha0 hp, by show T.length ≤ (T ++ [a]).length; simp⟩
      | some p =>
        obtain ⟨i1, i2⟩ := hr p L (T ++ [a]) (h.v a p e) g2
        have l1 : (T ++ [a]).length = T.length + 1 := by simp
        dsimp only
        by_cases c2 : (rec p L (T ++ [a])).1 = true
        · rw [if_pos c2]
          exact ⟨i1.put ha0 hp, by show T.length ≤ (rec p L (T ++ [a])).2.2.length; omega⟩
        · rw [if_neg c2]
          obtain ⟨j1, j2⟩ := lup_st hr hp as _ _ has i1
          exact ⟨j1, by omega⟩
theorem imp_st {near : Nat → Nat → Bool} {n : Nat} : ∀ (f place : Nat) (L : Mt) (T : List Nat), place < n → MSt n L T → MSt n (imp near n f place L T).2.1 (imp near n f place L T).2.2 ∧ T.length ≤ (imp near n f place L T).2.2.length
  | 0, _, _, _, _, h => ⟨h, Nat.le_refl _⟩
  | f + 1, place, L, T, hp, h => lup_st (fun p L T hp h => imp_st f p L T hp h) hp (List.range n) L T (fun a ha => List.mem_range.mp ha) h
theorem range_drop {n i : Nat} (h : i < n) : (List.range n).drop i = i :: (List.range n).drop (i + 1) := by
  rw [List.drop_eq_getElem_cons (by simpa using h), List.getElem_range]
/-- all but two stays -/
def SB2 (m t : Addr) (H H' : Hp) : Prop := ∀ b o, b ≠ m → b ≠ t → H b = some o → H' b = some o
theorem SB2.trans {m t : Addr} {A B C : Hp} (a : SB2 m t A B) (b : SB2 m t B C) : SB2 m t A C := fun c o h1 h2 e => b c o h1 h2 (a c o h1 h2 e)
theorem SB2.of {m t : Addr} {A B : Hp} (s : Same A B) : SB2 m t A B := fun c o _ _ e => s c o e
theorem SB2.tk {m t : Addr} {H H' : Hp} {x y : List (Key × V)} (s : SB2 m t H H') (em : H m = some (.dK x)) (et : H t = some (.dK y)) : Tk H H' := fun b xs e => s b _ (ne_of e em fun z => by cases z) (ne_of e et fun z => by cases z) e
section
variable {P : Program} {w : World} {K : PySem.W.Frag} {mg : Str → Option Value} {base : Heap}
abbrev sImp : Stmt := topS 37
abbrev nImp : List Str := ["left", "right", "doubled", "mates", "place", "met", "at"]
abbrev psImp : List Str := ["left", "right", "doubled", "mates", "place", "met"]
def spImp (f : Nat) : Sp := fun vs H Q _ => ∃ (l r m t : Addr) (d place : Nat) (zl zr : List V) (one other : List Bar) (L : Mt) (T : List Nat), vs = [.ref l, .ref r, .int (d : Nat), .ref m, .int (place : Nat), .ref t] ∧
  H l = some (.lst zl) ∧ H r = some (.lst zr) ∧ RV IsOB H zl (lft one other) ∧ RV IsOB H zr (lft other one) ∧ (∀ p ∈ one, BarOk p) ∧ (∀ p ∈ other, BarOk p) ∧ one.length + other.length ≤ 24 ∧ place < one.length + other.length ∧
  H m = some (.dK (encM L)) ∧ H t = some (.dK (encG T)) ∧ m ≠ t ∧ MSt (one.length + other.length) L T ∧ one.length + other.length < f + T.length ∧
  ∀ H', SB2 m t H H' → H' m = some (.dK (encM (imp (nrAt one other d) (one.length + other.length) f place L T).2.1)) → H' t = some (.dK (encG (imp (nrAt one other d) (one.length + other.length) f place L T).2.2)) → Q (.bl (imp (nrAt one other d) (one.length + other.length) f place L T).1) H'
theorem scImp : FnScope nImp psImp (defScope sImp) := ⟨rfl, rfl, rfl, by decide +kernel, rfl, by decide +kernel, by decide +kernel⟩
theorem ok_imp0 {f : Addr} {fd : FuncData} (F : Fun K "improved" "improved" sImp f fd) : FnOk P w K mg base CX0 3 f fd psImp (spImp 0) := by
  refine F.ok scImp (fun vs H Q E h => ?_) (fun cdv A outer s0 H vs Q E hr h => ?_)
  · obtain ⟨l, r, m, t, d, place, zl, zr, one, other, L, T, rfl, _⟩ := h
    rfl
  · exfalso
    obtain ⟨l, r, m, t, d, place, zl, zr, one, other, L, T, rfl, _, _, _, _, _, _, _, _, _, _, _, st, hf, _⟩ := h
    have := nodup_lt st.g.nod st.g.lt
    omega
theorem lft_ok {one other : List Bar} (h1 : ∀ p ∈ one, BarOk p) {i : Nat} {p : Option Bar} (h : (lft one other)[i]? = some p) : ∀ b, p = some b → BarOk b := fun b e => by
  rcases mem_lft h with z | ⟨x, z, hx⟩
  · rw [z] at e; cases e
  · rw [z] at e
    cases e
    exact h1 _ hx
theorem ok_imp {f : Addr} {fd : FuncData} {u : Nat} (T : Txt mg) (DN : Df P w K mg base 2 "is_near" ["bar", "other", "doubled"] spNear) (DI : Df P w K mg base (3 + u) "improved" psImp (spImp u)) (F : Fun K "improved" "improved" sImp f fd) : FnOk P w K mg base CX0 (3 + (u + 1)) f fd psImp (spImp (u + 1)) := by
  refine F.ok scImp (fun vs H Q E h => ?_) (fun cdv A outer s0 H vs Q E hr h => ?_)
  · obtain ⟨l, r, m, t, d, place, zl, zr, one, other, L, T, rfl, _⟩ := h
    rfl
  obtain ⟨l, r, m, t, d, place, zl, zr, one, other, L0, T0, rfl, el, er, rl, rr, ok1, ok2, h24, hp, em, et, nmt, st0, hf, q⟩ := h
  have hu := hu_of hr
  have hr : Room (3 + u) _ := hr
  have hr2 : Room 2 _ := hr.mono (by omega)
  generalize hn : one.length + other.length = n at h24 hp st0 hf q
  have zll : zl.length = n := by rw [rl.len, lft_len]; exact hn
  have zrl : zr.length = n := by rw [rr.len, lft_len]; omega
  refine ⟨_, pss_cons (ps_for PassesOwn.never rfl (pi_range1 (by rfl) T.range (pa_cons (pe_callB call_len_seq (by rfl) T.len PySem.boot_len (pa_cons (pv 1) pa_nil)) pa_nil)) (pg_name (i := 6) scImp.nd rfl (.inl rfl))
      (pss_one (ps_if (PW.pt (pw_and (pt_cmp (pc_dnotin hu (pv 6) (pv 5))) (pw_and1 (pt_val (pe_f DN hr2 (pa_cons (pe_ix ix_list (pv 0) (pv 4) (fun _ _ => rfl)) (pa_cons (pe_ix ix_list (pv 1) (pv 6) (fun _ _ => rfl)) (pa_cons (pv 2) pa_nil))))))))
        (pss_cons (ps_dput hu (pv 5) (pv 6) pe_bl rfl)
        (pss_one (ps_if (PW.pt (pw_or (pt_cmp (pc_dnotin hu (pv 6) (pv 3))) (pw_or1 (pt_val (pe_f DI hr (pa_cons (pv 0) (pa_cons (pv 1) (pa_cons (pv 2) (pa_cons (pv 3) (pa_cons (pe_dget hu (pv 3) (pv 6) (by first | exact (fun _ _ => rfl) | (intros; rfl) | trivial)) (pa_cons (pv 5) pa_nil)))))) (hk := by omega))))))
          (pss_cons (ps_dput hu (pv 3) (pv 6) (pv 4) rfl) (pss_one (ps_ret pe_bl))) pss_nil))) pss_nil)))
    (pss_one (ps_ret pe_bl)), ?_⟩
  refine ⟨_, rfl, r, zr, rfl, .inl (SqL.of er), _, rfl, by omega, by omega, ?_⟩
  have e0 : (((zr.length : Nat) : Int)).toNat = n := by rw [zrl]; rfl
  rw [e0]
  refine for_range (n := n) (fun i σ H' => ∃ y6 L T, σ = [some (.ref l), some (.ref r), some (.int (d : Nat)), some (.ref m), some (.int (place : Nat)), some (.ref t), y6] ∧ SB2 m t H H' ∧ H' m = some (.dK (encM L)) ∧ H' t = some (.dK (encG T)) ∧ MSt n L T ∧ T0.length ≤ T.length ∧
      imp (nrAt one other d) n (u + 1) place L0 T0 = lup (nrAt one other d) (imp (nrAt one other d) n u) place ((List.range n).drop i) L T) ⟨none, L0, T0, rfl, fun _ _ _ _ e => e, em, et, st0, Nat.le_refl _, rfl⟩ (fun i σ H1 hi p => ?_) fun σ H1 p => ?_
  · obtain ⟨y6, L, T, rfl, sb, em1, et1, st, tl, eq⟩ := p
    have tk1 := sb.tk em et
    have nlm : l ≠ m := ne_of el em fun z => by cases z
    have nlt : l ≠ t := ne_of el et fun z => by cases z
    have nrm : r ≠ m := ne_of er em fun z => by cases z
    have nrt : r ≠ t := ne_of er et fun z => by cases z
    have el1 := sb _ _ nlm nlt el
    have er1 := sb _ _ nrm nrt er
    have tlen : T.length ≤ n := nodup_lt st.g.nod st.g.lt
    have llen : L.length ≤ n := st.k.len
    have s6 : ([some (.ref l), some (.ref r), some (.int (d : Nat)), some (.ref m), some (.int (place : Nat)), some (.ref t), y6].set 6 (some (.int (0 + (i : Int)))) : Sl) = [some (.ref l), some (.ref r), some (.int (d : Nat)), some (.ref m), some (.int (place : Nat)), some (.ref t), some (.int (i : Nat))] := by rw [Int.zero_add]; rfl
    show tIfS _ _ _ _ ([some (.ref l), some (.ref r), some (.int (d : Nat)), some (.ref m), some (.int (place : Nat)), some (.ref t), y6].set 6 (some (.int (0 + (i : Int)))) : Sl) H1
    rw [s6]
    rw [range_drop hi] at eq
    unfold lup at eq
    refine ⟨_, rfl, _, rfl, t, _, rfl, DGet.k (k := kN i) et1, _, rfl, ?_⟩
    rw [valV_encG]
    by_cases hT : i ∈ T
    · rw [if_pos hT]
      rw [if_pos (by simp [hT])] at eq
      exact iteF (iteF ⟨_, L, T, rfl, sb, em1, et1, st, tl, eq⟩)
    · rw [if_neg hT]
      obtain ⟨p1, hp1⟩ : ∃ p, (lft one other)[place]? = some p := ⟨(lft one other)[place]'(by rw [lft_len]; omega), List.getElem?_eq_getElem _⟩
      obtain ⟨p2, hp2⟩ : ∃ p, (lft other one)[i]? = some p := ⟨(lft other one)[i]'(by rw [lft_len]; omega), List.getElem?_eq_getElem _⟩
      obtain ⟨y, ey, iy⟩ := rl.get hp1
      obtain ⟨z, ez, iz⟩ := rr.get hp2
      have en : nr d p1 p2 = nrAt one other d place i := by unfold nrAt; rw [hp1, hp2]
      refine iteT ⟨_, rfl, _, rfl, l, _, _, _, rfl, rfl, SqL.of el1, atI_nat ey, _, rfl, _, rfl, r, _, _, _, rfl, rfl, SqL.of er1, atI_nat ez, _, rfl, y, z, d, p1, p2, rfl, IsOB.stb _ _ _ _ tk1 iy, IsOB.stb _ _ _ _ tk1 iz, lft_ok ok1 hp1, lft_ok ok2 hp2, _, rfl, ?_⟩
      rw [en]
      by_cases hnr : nrAt one other d place i = true
      · rw [hnr]
        have hc : ¬ (T.contains i || !nrAt one other d place i) = true := by rw [hnr]; simp [hT]
        rw [if_neg hc] at eq
        have iT : insN T i = T ++ [i] := if_neg hT
        have st2 : MSt n L (T ++ [i]) := ⟨st.k, st.g.app hi hT, st.v⟩
        have put : DPut H1 t (.int (i : Nat)) (.bl true) (upd H1 t (.dK (encG (T ++ [i])))) := by
          rw [← iT, ← putK_encG]
          exact DPut.k (k := kN i) et1 (by rw [encG_len]; exact small1000 (by omega))
        refine iteT ⟨_, rfl, _, rfl, t, _, rfl, put, ?_⟩
        have sb2 : SB2 m t H (upd H1 t (.dK (encG (T ++ [i])))) := fun b o h1 h2 e => by rw [upd_ne h2]; exact sb _ _ h1 h2 e
        have em2 : (upd H1 t (.dK (encG (T ++ [i])))) m = some (.dK (encM L)) := by rw [upd_ne nmt]; exact em1
        have et2 : (upd H1 t (.dK (encG (T ++ [i])))) t = some (.dK (encG (T ++ [i]))) := upd_same
        generalize upd H1 t (.dK (encG (T ++ [i]))) = H2 at sb2 em2 et2
        have get : DGet H2 m (.int (i : Nat)) ((lk L i).map fun v : Nat => V.int (v : Nat)) := by
          rw [← valV_encM]
          exact DGet.k (k := kN i) em2
        refine ⟨_, rfl, _, rfl, m, _, rfl, get, _, rfl, ?_⟩
        -- mates[at] = place; return True
        have fin : ∀ (H3 : Hp) (L3 : Mt) (T3 : List Nat), SB2 m t H H3 → H3 m = some (.dK (encM L3)) → H3 t = some (.dK (encG T3)) → L3.length ≤ n → imp (nrAt one other d) n (u + 1) place L0 T0 = (true, pt L3 i place, T3) →
            DPut H3 m (.int (i : Nat)) (.int (place : Nat)) (upd H3 m (.dK (encM (pt L3 i place)))) ∧ Q (.bl true) (upd H3 m (.dK (encM (pt L3 i place)))) := fun H3 L3 T3 sb3 em3 et3 ll ee => by
          refine ⟨by rw [← putK_encM]; exact DPut.k (k := kN i) em3 (by rw [encM_len]; exact small1000 (by omega)), ?_⟩
          rw [ee] at q
          exact q _ (fun b o h1 h2 e => by rw [upd_ne h1]; exact sb3 _ _ h1 h2 e) upd_same (by rw [upd_ne (Ne.symm nmt)]; exact et3)
        cases e : lk L i with
        | none =>
          rw [e] at eq
          obtain ⟨f1, f2⟩ := fin H2 L (T ++ [i]) sb2 em2 et2 llen eq
          exact iteT (iteT ⟨_, rfl, _, rfl, _, rfl, m, _, rfl, f1, f2⟩)
        | some p =>
          rw [e] at eq get
          have el2 := sb2 _ _ nlm nlt el
          have er2 := sb2 _ _ nrm nrt er
          have tk2 := sb2.tk em et
          refine iteF ⟨_, rfl, _, rfl, _, rfl, _, rfl, _, rfl, _, rfl, m, _, rfl, get, _, rfl, l, r, m, t, d, p, zl, zr, one, other, L, T ++ [i], rfl, el2, er2, rl.tk IsOB.stb tk2, rr.tk IsOB.stb tk2, ok1, ok2, by omega, by rw [hn]; exact st.v i p e, em2, et2, nmt, by rw [hn]; exact st2, by rw [hn, List.length_append]; show n < u + (T.length + 1); omega, ?_⟩
          rw [hn]
          intro H3 sb3 em3 et3
          have sb4 := sb2.trans sb3
          obtain ⟨i1, i2⟩ := imp_st (near := nrAt one other d) u p L (T ++ [i]) (st.v i p e) st2
          have i2' : T.length + 1 ≤ (imp (nrAt one other d) n u p L (T ++ [i])).2.2.length := by
            have := i2
            rwa [List.length_append] at this
          dsimp only at eq
          by_cases c2 : (imp (nrAt one other d) n u p L (T ++ [i])).1 = true
          · rw [if_pos c2] at eq
            rw [c2]
            obtain ⟨f1, f2⟩ := fin H3 _ _ sb4 em3 et3 i1.k.len eq
            exact ⟨true, rfl, iteT ⟨_, rfl, _, rfl, _, rfl, m, _, rfl, f1, f2⟩⟩
          · rw [if_neg c2] at eq
            rw [Bool.not_eq_true] at c2
            rw [c2]
            exact ⟨false, rfl, iteF ⟨_, _, _, rfl, sb4, em3, et3, i1, by omega, eq⟩⟩
      · rw [Bool.not_eq_true] at hnr
        rw [hnr]
        rw [if_pos (by rw [hnr]; simp)] at eq
        exact iteF ⟨_, L, T, rfl, sb, em1, et1, st, tl, eq⟩
  · obtain ⟨y6, L, T, rfl, sb, em1, et1, st, tl, eq⟩ := p
    have e1 : (List.range n).drop n = [] := List.drop_eq_nil_of_le (by simp)
    rw [e1] at eq
    rw [eq] at q
    exact q H1 sb em1 et1
theorem df_imp {f : Addr} {fd : FuncData} (T : Txt mg) (DN : Df P w K mg base 2 "is_near" ["bar", "other", "doubled"] spNear) (F : Fun K "improved" "improved" sImp f fd) (hm : mg "improved" = some (.ref f)) (b : Binds K fd psImp []) : ∀ u : Nat, Df P w K mg base (3 + u) "improved" psImp (spImp u)
  | 0 => df_mk F hm b (ok_imp0 F)
  | u + 1 => df_mk F hm b (ok_imp T DN (df_imp T DN F hm b u) F)
end
end G98
namespace G98
open PySem PySem.Spec PyProof.Rows L2
abbrev tLft (K : PySem.W.Frag) (i j : Nat) : TE := tLst (StX.tStar K (tVar i) (StX.tStar K (tOp rRep (tLst (tCons (tC .non) tNil)) (tLen K j)) tNil))
theorem flat_rep (k : Nat) : (List.replicate k [V.non]).flatten = List.replicate k V.non := by
  induction k with
  | zero => rfl
  | succ k ih => rw [List.replicate_succ, List.flatten_cons, ih, List.replicate_succ]; rfl
theorem rv_some {H : Hp} {zs : List V} {as : List Bar} (h : RV IsB H zs as) : RV IsOB H zs (as.map some) := ⟨by rw [List.length_map]; exact h.len, fun j z e => by
  obtain ⟨a, ea, i⟩ := h.at' j z e
  exact ⟨some a, by rw [List.getElem?_map, ea]; rfl, i⟩⟩
theorem rv_rep {H : Hp} (k : Nat) : RV IsOB H (List.replicate k V.non) (List.replicate k (none : Option Bar)) := ⟨by simp, fun j z e => by
  have hj := (List.getElem?_eq_some_iff.mp e).1
  rw [List.length_replicate] at hj
  refine ⟨none, by rw [List.getElem?_replicate, if_pos hj], ?_⟩
  rw [List.getElem?_replicate, if_pos hj] at e
  exact (Option.some.inj e).symm⟩
theorem lft_use {K : PySem.W.Frag} {i j : Nat} {σ : Sl} {H : Hp} {Q : VK} {a b : Addr} {z1 z2 : List V} {one other : List Bar} (h1 : σ[i]? = some (some (.ref a))) (h2 : σ[j]? = some (some (.ref b))) (ea : H a = some (.tup z1)) (eb : H b = some (.tup z2)) (r1 : RV IsB H z1 one) (r2 : RV IsB H z2 other)
    (l1 : one.length ≤ 12) (l2 : other.length ≤ 12) (q : ∀ p H' zl, Same H H' → H p = none → H' p = some (.lst zl) → RV IsOB H' zl (lft one other) → Q (.ref p) H') : tLft K i j σ H Q := by
  have n1 := r1.len
  have n2 := r2.len
  refine ⟨_, h1, a, z1, rfl, .inl (SqT.of ea), by show 1 ≤ sizeLine; decide, fun l nl => ?_⟩
  have s1 : Same H (upd H l (.lst [V.non])) := same_upd nl
  refine ⟨_, h2, b, z2, rfl, .inr (SqT.of (s1 _ _ eb)), l, _, _, rfl, rfl, upd_same, by omega, by omega, ?_, fun p np => ?_⟩
  · show 1 * ((z2.length : Nat) : Int).toNat ≤ sizeLine
    rw [Int.toNat_natCast]
    exact small_line (by omega)
  rw [Int.toNat_natCast, flat_rep]
  have s2 : Same H (upd (upd H l (.lst [V.non])) p (.lst (List.replicate z2.length V.non))) := s1.trans (same_upd np)
  refine ⟨p, _, rfl, .inr (SqL.of upd_same), ?_, fun u nu => ?_⟩
  · rw [List.append_nil, List.length_append, List.length_replicate]
    exact small_line (by omega)
  have s3 : Same H (upd (upd (upd H l (.lst [V.non])) p (.lst (List.replicate z2.length V.non))) u (.lst (z1 ++ (List.replicate z2.length V.non ++ [])))) := s2.trans (same_upd nu)
  refine q u _ _ s3 (s2.free nu) upd_same ?_
  have h3 := (rv_some (r1.tk IsB.stb (same_tk s3))).app (rv_rep other.length)
  rw [List.append_nil, n2] at h3 ⊢
  exact h3
theorem par2 {i j : Nat} {ta tb : TE} {D : Ends} {σ : Sl} {H : Hp} (h : ta σ H fun x H1 => tb σ H1 fun y H2 => ∃ v w, ([x, y] : List V) = [v, w] ∧ D.nx ((σ.set i (some v)).set j (some w)) H2) : tPar i j (tCons ta (tCons tb tNil)) D σ H := h
theorem asg_tup2 {ta tb : TE} {g : TG} {D : Ends} {σ : Sl} {H : Hp} (h : ta σ H fun x H1 => tb σ H1 fun y H2 => ([x, y] : List V).length ≤ sizeLine ∧ ∀ p, H2 p = none → g (.ref p) σ (upd H2 p (.tup [x, y])) D.nx) : tAsg (tTup (tCons ta (tCons tb tNil))) g D σ H := h
theorem if_use {t : TT} {σ : Sl} {H : Hp} {Q : VK} {i : Nat} {v : Int} (hv : σ[i]? = some (some (.int v))) (ht : ∀ R : Bool → Hp → Prop, (∀ b, R b H) → t σ H R) (q : ∀ x d, (x = .non ∧ d = PyData.none) ∨ (∃ j, x = .int j ∧ d = .int j) → Q x H) : tIf t (tVar i) (tC .non) σ H Q :=
  ht _ fun b => by
    cases b with
    | true => exact iteT ⟨_, hv, q _ (.int v) (.inr ⟨_, rfl, rfl⟩)⟩
    | false => exact iteF (q .non .none (.inl ⟨rfl, rfl⟩))
section
variable {P : Program} {w : World} {K : PySem.W.Frag} {mg : Str → Option Value} {base : Heap}
abbrev sMat : Stmt := topS 38
abbrev nMat : List Str := ["one", "other", "doubled", "left", "right", "mates", "place", "found", "at", "pair"]
def spMat : Sp := fun vs H Q _ => ∃ (a b : Addr) (d : Nat) (z1 z2 : List V) (one other : List Bar), vs = [.ref a, .ref b, .int (d : Nat)] ∧ H a = some (.tup z1) ∧ H b = some (.tup z2) ∧ RV IsB H z1 one ∧ RV IsB H z2 other ∧ one.length ≤ 12 ∧ other.length ≤ 12 ∧ (∀ p ∈ one, BarOk p) ∧ (∀ p ∈ other, BarOk p) ∧
  (∀ H', Same H H' → ¬ (∃ js, Full (nrAt one other d) (one.length + other.length) js) → Q .non H') ∧ ∀ H' r xs, Same H H' → H' r = some (.tup xs) → Q (.ref r) H'
theorem scMat : FnScope nMat ["one", "other", "doubled"] (defScope sMat) := ⟨rfl, rfl, rfl, by decide +kernel, rfl, by decide +kernel, by decide +kernel⟩
theorem ok_mat {f : Addr} {fd : FuncData} (T : Txt mg) (DI : Df P w K mg base 28 "improved" psImp (spImp 25)) (F : Fun K "matched" "matched" sMat f fd) : FnOk P w K mg base CX0 29 f fd ["one", "other", "doubled"] spMat := by
  refine F.ok scMat (fun vs H Q E h => ?_) (fun cdv A outer s0 H vs Q E hr h => ?_)
  · obtain ⟨a, b, d, z1, z2, one, other, rfl, _⟩ := h
    rfl
  obtain ⟨a, b, d, z1, z2, one, other, rfl, ea, eb, r1, r2, l1, l2, ok1, ok2, qn, qs⟩ := h
  have hu := hu_of hr
  have zl1 := r1.len
  have zl2 := r2.len
  generalize hn : one.length + other.length = n at qn
  refine ⟨_, pss_cons (ps_par (i := 3) (j := 4) rfl scMat.nd rfl rfl (by decide) rfl rfl (pa_cons (pe_lst (StX.pa_star (pv 0) (StX.pa_star (pe_op op_rep (pe_lst (pa_cons pe_non pa_nil)) (pe_callB call_len_seq (by rfl) T.len PySem.boot_len (pa_cons (pv 1) pa_nil))) pa_nil)))
      (pa_cons (pe_lst (StX.pa_star (pv 1) (StX.pa_star (pe_op op_rep (pe_lst (pa_cons pe_non pa_nil)) (pe_callB call_len_seq (by rfl) T.len PySem.boot_len (pa_cons (pv 0) pa_nil))) pa_nil))) pa_nil)) (by rfl))
    (pss_cons (ps_set (i := 5) scMat.nd rfl (.inl rfl) pe_dnewK)
    (pss_cons (ps_for PassesOwn.never rfl (pi_range1 (by rfl) T.range (pa_cons (pe_callB call_len_seq (by rfl) T.len PySem.boot_len (pa_cons (pv 3) pa_nil)) pa_nil)) (pg_name (i := 6) scMat.nd rfl (.inl rfl))
      (pss_one (ps_if (pt_not (pt_val (pe_f DI hr (pa_cons (pv 3) (pa_cons (pv 4) (pa_cons (pv 2) (pa_cons (pv 5) (pa_cons (pv 6) (pa_cons pe_dnewK pa_nil))))))))) (pss_one (ps_ret pe_non)) pss_nil)))
    (pss_cons (ps_set (i := 7) scMat.nd rfl (.inl rfl) (pe_lst pa_nil))
    (pss_cons (ps_lock (ps_for PassesOwn.never rfl (pi_items (pv 5)) (pg_tup rfl (pgs_cons (pg_name (i := 8) scMat.nd rfl (.inl rfl)) (pgs_cons (pg_name (i := 6) scMat.nd rfl (.inl rfl)) pgs_nil)))
      (pss_cons (ps_set (i := 9) scMat.nd rfl (.inl rfl) (pe_tup (pa_cons (pe_ifExp (pt_cmpR op_lt (pv 6) (pe_callB call_len_seq (by rfl) T.len PySem.boot_len (pa_cons (pv 0) pa_nil)) (nomark _)) (pv 6) pe_non)
          (pa_cons (pe_ifExp (pt_cmpR op_lt (pv 8) (pe_callB call_len_seq (by rfl) T.len PySem.boot_len (pa_cons (pv 1) pa_nil)) (nomark _)) (pv 8) pe_non) pa_nil))))
        (pss_one (ps_if (pt_cmpR (op_neD hr.units) (pv 9) (pe_tup (pa_cons pe_non (pa_cons pe_non pa_nil))) (nomark _))
          (pss_one (ps_expr (pe_bm PySem.F.plainAttrs_list PySem.F.slot_list_append PySem.F.type_list_append mt_append (pv 7) (pa_cons (pv 9) pa_nil)))) pss_nil)))))
    (pss_one (ps_ret (pe_callTy call_tuple_of (by rfl) T.tuple (by decide +kernel) (pa_cons (pv 7) pa_nil)))))))), ?_⟩
  show tPar 3 4 (tCons (tLft K 0 1) (tCons (tLft K 1 0) tNil)) _ _ _
  refine par2 ?_
  refine lft_use rfl rfl ea eb r1 r2 l1 l2 fun l Ha zl sa nl el rl => ?_
  refine lft_use rfl rfl (sa _ _ eb) (sa _ _ ea) (r2.tk IsB.stb (same_tk sa)) (r1.tk IsB.stb (same_tk sa)) l2 l1 fun r Hb zr sb nr er rr => ⟨_, _, rfl, ?_⟩
  have sB := sa.trans sb
  have elB := sb _ _ el
  have rlB := rl.tk IsOB.stb (same_tk sb)
  have zll : zl.length = n := by rw [rl.len, lft_len]; exact hn
  refine fun m nm => ?_
  refine ⟨_, rfl, l, zl, rfl, .inl (SqL.of ((same_upd nm) _ _ elB)), _, rfl, by omega, by omega, ?_⟩
  have e0 : (((zl.length : Nat) : Int)).toNat = n := by rw [zll]; rfl
  rw [e0]
  refine for_range (n := n) (fun i σ H' => ∃ y6 L, σ = [some (.ref a), some (.ref b), some (.int (d : Nat)), some (.ref l), some (.ref r), some (.ref m), y6, none, none, none] ∧ Same Hb H' ∧ H' m = some (.dK (encM L)) ∧ MSt n L [] ∧ ((∃ js, Full (nrAt one other d) n js) → Run (nrAt one other d) n i L))
    ⟨none, [], rfl, same_upd nm, upd_same, ⟨⟨List.nodup_nil, fun j h => (by cases h)⟩, ⟨List.nodup_nil, fun j h => (by cases h)⟩, fun a p h => (by cases h)⟩, fun _ => Run.start⟩ (fun i σ H1 hi p => ?_) fun σ H1 p => ?_
  · obtain ⟨y6, L, rfl, s1, em, st, run⟩ := p
    have s6 : ([some (.ref a), some (.ref b), some (.int (d : Nat)), some (.ref l), some (.ref r), some (.ref m), y6, none, none, none].set 6 (some (.int (0 + (i : Int)))) : Sl) = [some (.ref a), some (.ref b), some (.int (d : Nat)), some (.ref l), some (.ref r), some (.ref m), some (.int (i : Nat)), none, none, none] := by rw [Int.zero_add]; rfl
    show tIfS _ _ _ _ ([some (.ref a), some (.ref b), some (.int (d : Nat)), some (.ref l), some (.ref r), some (.ref m), y6, none, none, none].set 6 (some (.int (0 + (i : Int)))) : Sl) H1
    rw [s6]
    refine ⟨_, rfl, _, rfl, _, rfl, _, rfl, _, rfl, fun t nt => ?_⟩
    have s2 : Same H1 (upd H1 t (.dK [])) := same_upd nt
    have tkB := same_tk (s1.trans s2)
    have nmt : m ≠ t := ne_of_none em nt
    have nHbt : Hb t = none := s1.free nt
    refine ⟨l, r, m, t, d, i, zl, zr, one, other, L, [], rfl, s2 _ _ (s1 _ _ elB), s2 _ _ (s1 _ _ er), rlB.tk IsOB.stb tkB, rr.tk IsOB.stb tkB, ok1, ok2, by omega, by omega, s2 _ _ em, upd_same, nmt, by rw [hn]; exact st, by show _ < 25 + 0; omega, ?_⟩
    rw [hn]
    intro H3 sb3 em3 et3
    have s3 : Same Hb H3 := fun b' o' e => sb3 b' o' (ne_of_none e nm) (ne_of_none e nHbt) (s2 _ _ (s1 _ _ e))
    obtain ⟨i1, _⟩ := imp_st (near := nrAt one other d) 25 i L [] hi st
    refine ⟨_, rfl, ?_⟩
    cases c : (imp (nrAt one other d) n 25 i L []).1 with
    | true =>
      refine iteF ⟨_, _, rfl, s3, em3, ⟨i1.k, ⟨List.nodup_nil, fun j h => (by cases h)⟩, i1.v⟩, fun hf => ?_⟩
      obtain ⟨js, F⟩ := id hf
      exact ((run hf).next F hi (by omega)).2
    | false =>
      refine iteT ?_
      refine qn H3 (sB.trans s3) fun hf => ?_
      obtain ⟨js, F⟩ := id hf
      have := ((run hf).next F hi (f := 25) (by omega)).1
      rw [c] at this
      cases this
  · obtain ⟨y6, L, rfl, s1, em, st, _⟩ := p
    refine ⟨by show 0 ≤ sizeLine; decide, fun c nc => ?_⟩
    have s2 : Same Hb (upd H1 c (.lst [])) := s1.trans (same_upd nc)
    have em2 : (upd H1 c (.lst [])) m = some (.dK (encM L)) := (same_upd nc) _ _ em
    have nHc : Hb c = none := s1.free nc
    have ec2 : (upd H1 c (.lst [])) c = some (.lst []) := upd_same
    have ncm : c ≠ m := fun z => by rw [z] at nc; rw [nc] at em; cases em
    generalize upd H1 c (.lst []) = H2 at s2 em2 ec2
    refine ⟨m, _, em2, True.intro, fun od => ?_⟩
    have emL : (upd H2 m (.frz od (.dK (encM L)))) m = some (.frz od (.dK (encM L))) := upd_same
    have sL : Same Hb (upd H2 m (.frz od (.dK (encM L)))) := fun b' o' e => by rw [upd_ne (ne_of_none e nm)]; exact s2 _ _ e
    have ecL : (upd H2 m (.frz od (.dK (encM L)))) c = some (.lst []) := by rw [upd_ne ncm]; exact ec2
    generalize upd H2 m (.frz od (.dK (encM L))) = H3 at emL sL ecL
    have kl := st.k.len
    refine ⟨_, rfl, m, od, _, rfl, emL, for_it (walk_items (kvs := encM L)) (fun i σ H' => ∃ y6 y8 y9 fl, σ = [some (.ref a), some (.ref b), some (.int (d : Nat)), some (.ref l), some (.ref r), some (.ref m), y6, some (.ref c), y8, y9] ∧ Same Hb H' ∧ H' m = some (.frz od (.dK (encM L))) ∧ H' c = some (.lst fl) ∧ fl.length ≤ i)
      ⟨_, none, none, [], rfl, sL, emL, ecL, Nat.le_refl _⟩ (fun i σ H' _ p => by obtain ⟨_, _, _, _, _, _, e, _⟩ := p; exact e) (fun i x σ H4 H5 hi pv hy => ?_) fun σ H4 pv => ?_⟩
    · obtain ⟨y6, y8, y9, fl, rfl, s4, em4, ec4, fll⟩ := pv
      obtain ⟨U, x1, x2, rfl, nU, rfl, h1, h2⟩ := hy
      rw [encM_len] at hi
      have hpr : L[i]? = some L[i] := List.getElem?_eq_getElem hi
      have hen : (encM L)[i]? = some (kN L[i].1, .int (L[i].2 : Nat)) := by
        unfold encM
        rw [List.getElem?_map, hpr]
        rfl
      have h1 : ((encM L)[i]?.map fun kv => kV kv.1) = some x1 := h1
      have h2 : ((encM L)[i]?.map Prod.snd) = some x2 := h2
      rw [hen] at h1 h2
      have h1 : V.int (L[i].1 : Nat) = x1 := Option.some.inj h1
      have h2 : V.int (L[i].2 : Nat) = x2 := Option.some.inj h2
      subst h1
      subst h2
      have s5 : Same H4 (upd H4 U (.tup [.int (L[i].1 : Nat), .int (L[i].2 : Nat)])) := same_upd nU
      refine ⟨U, _, rfl, SqT.of upd_same, rfl, _, _, rfl, _, _, rfl, rfl, ?_⟩
      have sC := s4.trans s5
      have em5 := s5 _ _ em4
      have ec5 := s5 _ _ ec4
      generalize upd H4 U (.tup [.int (L[i].1 : Nat), .int (L[i].2 : Nat)]) = H5 at s5 sC em5 ec5
      have ea5 := sC _ _ (sB _ _ ea)
      have eb5 := sC _ _ (sB _ _ eb)
      show tAsg (tTup (tCons (tIf _ (tVar 6) (tC .non)) (tCons (tIf _ (tVar 8) (tC .non)) tNil))) (gName 9) _ _ _
      refine asg_tup2 ?_
      refine if_use rfl (fun R r => ⟨_, rfl, _, rfl, a, _, rfl, .inr (SqT.of ea5), _, _, rfl, rfl, _, rfl, r _⟩) fun x dx hx => ?_
      refine if_use rfl (fun R r => ⟨_, rfl, _, rfl, b, _, rfl, .inr (SqT.of eb5), _, _, rfl, rfl, _, rfl, r _⟩) fun y dy hy => ?_
      refine ⟨by show 2 ≤ sizeLine; decide, fun u nu => ?_⟩
      have s6 : Same H5 (upd H5 u (.tup [x, y])) := same_upd nu
      have eu : (upd H5 u (.tup [x, y])) u = some (.tup [x, y]) := upd_same
      refine ⟨_, rfl, by show 2 ≤ sizeLine; decide, fun u2 nu2 => ?_⟩
      have s7 : Same H5 (upd (upd H5 u (.tup [x, y])) u2 (.tup [.non, .non])) := s6.trans (same_upd nu2)
      have eu7 : (upd (upd H5 u (.tup [x, y])) u2 (.tup [.non, .non])) u = some (.tup [x, y]) := (same_upd nu2) _ _ eu
      have eu8 : (upd (upd H5 u (.tup [x, y])) u2 (.tup [.non, .non])) u2 = some (.tup [.non, .non]) := upd_same
      generalize upd (upd H5 u (.tup [x, y])) u2 (.tup [.non, .non]) = H6 at s7 eu7 eu8
      have dpx : Dp K H6 x dx := by
        rcases hx with ⟨rfl, rfl⟩ | ⟨j, rfl, rfl⟩
        · exact .non
        · exact .int j
      have dpy : Dp K H6 y dy := by
        rcases hy with ⟨rfl, rfl⟩ | ⟨j, rfl, rfl⟩
        · exact .non
        · exact .int j
      have shp : SeqAt.shaped (.tuple [dx, dy]) = true := by
        rcases hx with ⟨rfl, rfl⟩ | ⟨j, rfl, rfl⟩ <;> rcases hy with ⟨rfl, rfl⟩ | ⟨k, rfl, rfl⟩ <;> rfl
      refine ⟨.tuple [dx, dy], .tuple [.none, .none], .tup (SqT.of eu7) (.cons dpx (.cons dpy .nil)), .tup (SqT.of eu8) (.cons .non (.cons .non .nil)), shp, rfl, _, rfl, ?_⟩
      have sD := sC.trans s7
      refine ite2 (fun _ => ?_) (fun _ => ⟨_, _, _, fl, rfl, sD, s7 _ _ em5, s7 _ _ ec5, by omega⟩)
      refine ⟨_, rfl, .inl ⟨rfl, _, SqL.of (s7 _ _ ec5)⟩, _, rfl, c, fl, _, rfl, rfl, s7 _ _ ec5, small1000 (by omega), ?_⟩
      refine ⟨_, _, _, _, rfl, fun b' o' e => by rw [upd_ne (ne_of_none e nHc)]; exact sD _ _ e, ?_, upd_same, by rw [List.length_append]; show fl.length + 1 ≤ _; omega⟩
      rw [upd_ne (Ne.symm ncm)]
      exact s7 _ _ em5
    · obtain ⟨y6, y8, y9, fl, rfl, s4, em4, ec4, fll⟩ := pv
      refine ⟨em4, ?_⟩
      have sE : Same Hb (upd H4 m (.dK (encM L))) := fun b' o' e => by rw [upd_ne (ne_of_none e nm)]; exact s4 _ _ e
      have ecE : (upd H4 m (.dK (encM L))) c = some (.lst fl) := by rw [upd_ne ncm]; exact ec4
      refine ⟨_, rfl, c, fl, rfl, .inl ⟨SqL.of ecE, fun l2 nl2 => ?_⟩⟩
      exact qs _ l2 fl (sB.trans (sE.trans (same_upd nl2))) upd_same
end
end G98
namespace G98
open PySem PySem.Spec PyProof.Rows L2
def ko (e : Option Nat) : OI := e.map fun n : Nat => (n : Int)
theorem ko_inj {a b : Option Nat} (h : ko a = ko b) : a = b := by
  cases a with
  | none =>
    cases b with
    | none => rfl
    | some y => cases h
  | some x =>
    cases b with
    | none => cases h
    | some y =>
      have h : (x : Int) = (y : Int) := Option.some.inj h
      have : x = y := by omega
      rw [this]
theorem lfV_ko (e : Option Nat) : lfV (ko e) = ov e := by cases e <;> rfl
def putN (es : List (Option Nat)) (e : Option Nat) : List (Option Nat) := if e ∈ es then es else es ++ [e]
theorem putL_ko (es : List (Option Nat)) (e : Option Nat) : putL (es.map ko) (ko e) = (putN es e).map ko := by
  have : ko e ∈ es.map ko ↔ e ∈ es := by
    rw [List.mem_map]
    exact ⟨fun ⟨a, ha, z⟩ => ko_inj z ▸ ha, fun h => ⟨e, h, rfl⟩⟩
  unfold putL putN
  by_cases h : e ∈ es
  · rw [if_pos h, if_pos (this.mpr h)]
  · rw [if_neg h, if_neg (fun z => h (this.mp z)), List.map_append]
    rfl
theorem mem_putN {es : List (Option Nat)} {e x : Option Nat} : x ∈ putN es e ↔ x ∈ es ∨ x = e := by
  unfold putN
  by_cases h : e ∈ es
  · rw [if_pos h]
    exact ⟨.inl, fun z => z.elim id fun q => q ▸ h⟩
  · rw [if_neg h]; simp
theorem putN_len (es : List (Option Nat)) (e : Option Nat) : (putN es e).length ≤ es.length + 1 := by
  unfold putN
  split
  · omega
  · simp
def wn (one : List Bar) : List (Option Bar) := one.map some ++ [none]
theorem wn_len (one : List Bar) : (wn one).length = one.length + 1 := by simp [wn]
theorem rv_wn {H : Hp} {zs : List V} {as : List Bar} (h : RV IsB H zs as) : RV IsOB H (zs ++ [V.non]) (wn as) := (rv_some h).app (RV.one (rel := IsOB) (a := none) rfl)
theorem wn_ok {one : List Bar} (h1 : ∀ p ∈ one, BarOk p) {i : Nat} {p : Option Bar} (h : (wn one)[i]? = some p) : ∀ b, p = some b → BarOk b := fun b e => by
  have := List.mem_of_getElem? h
  rcases List.mem_append.mp this with z | z
  · obtain ⟨x, hx, e2⟩ := List.mem_map.mp z
    rw [e] at e2
    cases e2
    exact h1 _ hx
  · rw [e] at z
    simp at z
theorem wn_mem {one : List Bar} {p : Option Bar} (h : p = none ∨ ∃ x, p = some x ∧ x ∈ one) : ∃ i, i < (wn one).length ∧ (wn one)[i]? = some p := by
  have : p ∈ wn one := by
    rcases h with h | ⟨x, h, hx⟩
    · rw [h]; simp [wn]
    · rw [h]; exact List.mem_append_left _ (List.mem_map.mpr ⟨x, hx, rfl⟩)
  obtain ⟨i, hi⟩ := List.getElem?_of_mem this
  exact ⟨i, (List.getElem?_eq_some_iff.mp hi).1, hi⟩
section
variable {P : Program} {w : World} {K : PySem.W.Frag} {mg : Str → Option Value} {base : Heap}
abbrev sBot : Stmt := topS 39
abbrev nBot : List Str := ["one", "other", "some", "bar", "mate", "doubled", "found", "far"]
def spBot : Sp := fun vs H Q _ => ∃ (a b : Addr) (d : Nat) (z1 z2 : List V) (one other : List Bar), vs = [.ref a, .ref b] ∧ H a = some (.tup z1) ∧ H b = some (.tup z2) ∧ RV IsB H z1 one ∧ RV IsB H z2 other ∧ one.length ≤ 12 ∧ other.length ≤ 12 ∧ (∀ p ∈ one, BarOk p) ∧ (∀ p ∈ other, BarOk p) ∧
  (∃ js, Full (nrAt one other d) (one.length + other.length) js) ∧ ∀ H' r fo (x : Nat), Same H H' → H' r = some (.tup [.int (x : Nat), .ref fo]) → x ≤ d → Q (.ref r) H'
theorem scBot : FnScope nBot ["one", "other"] (defScope sBot) := ⟨rfl, rfl, rfl, by decide +kernel, rfl, by decide +kernel, by decide +kernel⟩
theorem ok_bot {f : Addr} {fd : FuncData} (T : Txt mg) (DB : Df P w K mg base 5 "need_bars" ["value"] spNB) (DC : Df P w K mg base 1 "cost" ["bar", "other"] spCost) (DM : Df P w K mg base 29 "matched" ["one", "other", "doubled"] spMat) (F : Fun K "bottleneck" "bottleneck" sBot f fd) :
    FnOk P w K mg base CX0 30 f fd ["one", "other"] spBot := by
  refine F.ok scBot (fun vs H Q E h => ?_) (fun cdv A outer s0 H vs Q E hr h => ?_)
  · obtain ⟨a, b, d, z1, z2, one, other, rfl, _⟩ := h
    rfl
  obtain ⟨a, b, d, z1, z2, one, other, rfl, ea, eb, r1, r2, l1, l2, ok1, ok2, hfull, q⟩ := h
  have hu := hu_of hr
  have zl1 := r1.len
  have zl2 := r2.len
  obtain ⟨js, hF⟩ := hfull
  obtain ⟨c0, hcand, hcd, hF0⟩ := hF.least
  refine ⟨_, pss_cons (ps_expr (pe_f DB hr (pa_cons (pv 0) pa_nil)))
    (pss_cons (ps_expr (pe_f DB hr (pa_cons (pv 1) pa_nil)))
    (pss_cons (ps_set (i := 2) (te := tLf1 P w (tC (.int 0)) (tC (.bl true))) scBot.nd rfl (.inl rfl) (pe_lf1 pe_int pe_bl))
    (pss_cons (ps_for PassesOwn.never rfl (pi_list (pe_lst (StX.pa_star (pv 0) (pa_cons pe_non pa_nil)))) (pg_name (i := 3) scBot.nd rfl (.inl rfl))
      (pss_one (ps_for PassesOwn.never rfl (pi_list (pe_lst (StX.pa_star (pv 1) (pa_cons pe_non pa_nil)))) (pg_name (i := 4) scBot.nd rfl (.inl rfl))
        (pss_one (ps_if (PW.pt (pw_or (pt_cmp (pc_notN (pv 3))) (pw_or1 (pt_cmp (pc_notN (pv 4))))))
          (pss_one (ps_asg pe_bl (pg_sub (pv 2) (pe_f DC hr (pa_cons (pv 3) (pa_cons (pv 4) pa_nil))) set_lf))) pss_nil)))))
    (pss_cons (ps_for PassesOwn.never rfl (pi_list (pe_callB cr_sortedI (by rfl) T.sorted (by decide +kernel) (pa_cons
        (pe_lock (pe_lc (own := [("far", 7)]) (g := gName 7) (tt := tB (tNotN (tVar 7))) (te := tVar 7) rfl scBot.nd (pi_lf (pv 2)) (blkOk_by (N := nBot) (sc := defScope sBot) (by decide +kernel))
          (fun _ _ _ _ _ => pg_name (i := 7) scBot.nd rfl (.inl rfl)) (fun _ _ _ _ _ => pts_one (pt_cmp (pc_notN (pv 7)))) (fun _ _ _ _ _ => pv 7))) pa_nil))) (pg_name (i := 5) scBot.nd rfl (.inl rfl))
      (pss_cons (ps_set (i := 6) scBot.nd rfl (.inl rfl) (pe_f DM hr (pa_cons (pv 0) (pa_cons (pv 1) (pa_cons (pv 5) pa_nil)))))
      (pss_one (ps_if (pt_cmp (pc_notN (pv 6))) (pss_one (ps_ret (pe_tup (pa_cons (pv 5) (pa_cons (pv 6) pa_nil))))) pss_nil))))
    (pss_one (ps_ret pe_non)))))), ?_⟩
  refine ⟨_, rfl, a, z1, one, rfl, ea, r1, l1, ok1, fun H1 s1 => ?_⟩
  refine ⟨_, rfl, b, z2, other, rfl, s1 _ _ eb, r2.tk IsB.stb (same_tk s1), l2, ok2, fun H2 s2 => ?_⟩
  have sA := s1.trans s2
  refine fun s ns => ⟨upd_same, 0, .bl true, rfl, ?_⟩
  rw [upd_upd]
  have eS : (upd H2 s (LfO P w s [some 0])) s = some (LfO P w s ([some 0].map ko)) := upd_same
  have s3 : Same H2 (upd H2 s (LfO P w s [some 0])) := same_upd ns
  have sB := sA.trans s3
  generalize upd H2 s (LfO P w s [some 0]) = H3 at eS s3 sB
  refine ⟨_, rfl, a, z1, rfl, .inl (SqT.of (sB _ _ ea)), by rw [List.length_append]; exact small_line (by show z1.length + 1 ≤ _; omega), fun la nla => ?_⟩
  have sC : Same H2 (upd H3 la (.lst (z1 ++ [V.non]))) := s3.trans (same_upd nla)
  have rA : RV IsOB (upd H3 la (.lst (z1 ++ [V.non]))) (z1 ++ [V.non]) (wn one) := rv_wn (r1.tk IsB.stb (same_tk (sA.trans sC)))
  have eA : (upd H3 la (.lst (z1 ++ [V.non]))) la = some (.lst (z1 ++ [V.non])) := upd_same
  have eS2 := (same_upd nla (o := .lst (z1 ++ [V.non]))) _ _ eS
  have nls : la ≠ s := fun z => by rw [z, eS] at nla; cases nla
  generalize upd H3 la (.lst (z1 ++ [V.non])) = H4 at sC rA eA eS2
  have hla : (z1 ++ [V.non]).length = one.length + 1 := by rw [List.length_append, zl1]; rfl
  refine ⟨la, rfl, ⟨_, SqL.of eA⟩, for_list (xs := z1 ++ [V.non]) (fun i σ H' => ∃ (y3 y4 : Option V) (es : List (Option Nat)), σ = [some (.ref a), some (.ref b), some (.ref s), y3, y4, none, none, none] ∧ Same H2 H' ∧ Tk H4 H' ∧ H' la = some (.lst (z1 ++ [V.non])) ∧ H' s = some (LfO P w s (es.map ko)) ∧ es.length ≤ 1 + 13 * i ∧ some 0 ∈ es ∧
      ∀ i' : Nat, i' < i → ∀ (p q : Option Bar) (j : Nat), (wn one)[i']? = some p → (wn other)[j]? = some q → ¬ (p = none ∧ q = none) → cst p q ∈ es)
    ⟨none, none, [some 0], rfl, sC, Tk.refl _, eA, eS2, by simp, by simp, fun i' h => absurd h (Nat.not_lt_zero _)⟩ (fun i σ H' _ p => by obtain ⟨_, _, _, _, _, _, e, _⟩ := p; exact SqL.of e) (fun i x σ H5 hx pv => ?_) fun σ H5 pv => ?_⟩
  · obtain ⟨y3, y4, es, rfl, s5, t5, eA5, eS5, el, e0, ec⟩ := pv
    obtain ⟨p, ep, ip⟩ := rA.at' i x hx
    have hi : i ≤ 12 := by
      have := (List.getElem?_eq_some_iff.mp hx).1
      omega
    have sD := sA.trans s5
    refine ⟨_, rfl, b, z2, rfl, .inl (SqT.of (sD _ _ eb)), by rw [List.length_append]; exact small_line (by show z2.length + 1 ≤ _; omega), fun lb nlb => ?_⟩
    have s6 : Same H5 (upd H5 lb (.lst (z2 ++ [V.non]))) := same_upd nlb
    have rB : RV IsOB (upd H5 lb (.lst (z2 ++ [V.non]))) (z2 ++ [V.non]) (wn other) := rv_wn (r2.tk IsB.stb (same_tk (sD.trans s6)))
    have eB : (upd H5 lb (.lst (z2 ++ [V.non]))) lb = some (.lst (z2 ++ [V.non])) := upd_same
    have nbs : lb ≠ s := fun z => by rw [z, eS5] at nlb; cases nlb
    have nba : lb ≠ la := fun z => by rw [z, eA5] at nlb; cases nlb
    have eS6 := s6 _ _ eS5
    have eA6 := s6 _ _ eA5
    have s6' := s5.trans s6
    have t6 := t5.trans (same_tk s6)
    generalize upd H5 lb (.lst (z2 ++ [V.non])) = H6 at s6 rB eB eS6 eA6 s6' t6
    have hlb : (z2 ++ [V.non]).length = other.length + 1 := by rw [List.length_append, zl2]; rfl
    refine ⟨lb, rfl, ⟨_, SqL.of eB⟩, for_list (xs := z2 ++ [V.non]) (fun j σ H' => ∃ (y4 : Option V) (es2 : List (Option Nat)), σ = [some (.ref a), some (.ref b), some (.ref s), some x, y4, none, none, none] ∧ Same H2 H' ∧ Tk H6 H' ∧ H' la = some (.lst (z1 ++ [V.non])) ∧ H' lb = some (.lst (z2 ++ [V.non])) ∧ H' s = some (LfO P w s (es2.map ko)) ∧ es2.length ≤ 1 + 13 * i + j ∧ (∀ e ∈ es, e ∈ es2) ∧
        ∀ j' : Nat, j' < j → ∀ q : Option Bar, (wn other)[j']? = some q → ¬ (p = none ∧ q = none) → cst p q ∈ es2)
      ⟨y4, es, rfl, s6', Tk.refl _, eA6, eB, eS6, by omega, fun e h => h, fun j' h => absurd h (Nat.not_lt_zero _)⟩ (fun j σ H' _ p => by obtain ⟨_, _, _, _, _, _, e, _⟩ := p; exact SqL.of e) (fun j z σ H7 hz pv => ?_) fun σ H7 pv => ?_⟩
    · obtain ⟨y4', es2, rfl, s7, t7, eA7, eB7, eS7, el2, sub, ec2⟩ := pv
      obtain ⟨p2, ep2, ip2⟩ := rB.at' j z hz
      have hj : j ≤ 12 := by
        have := (List.getElem?_eq_some_iff.mp hz).1
        omega
      have ix : IsOB H7 x p := IsOB.stb _ _ _ _ (t6.trans t7) ip
      have iz : IsOB H7 z p2 := IsOB.stb _ _ _ _ t7 ip2
      have set : ¬ (p = none ∧ p2 = none) → tAsg (tC (.bl true)) (gSub (tVar 2) (tCall spCost [] E0 (tCons (tVar 3) (tCons (tVar 4) tNil))) (sLf P w))
          { nx := fun σ H' => ∃ (y4 : Option V) (es2 : List (Option Nat)), σ = [some (.ref a), some (.ref b), some (.ref s), some x, y4, none, none, none] ∧ Same H2 H' ∧ Tk H6 H' ∧ H' la = some (.lst (z1 ++ [V.non])) ∧ H' lb = some (.lst (z2 ++ [V.non])) ∧ H' s = some (LfO P w s (es2.map ko)) ∧ es2.length ≤ 1 + 13 * i + (j + 1) ∧ (∀ e ∈ es, e ∈ es2) ∧
            ∀ j' : Nat, j' < j + 1 → ∀ q : Option Bar, (wn other)[j']? = some q → ¬ (p = none ∧ q = none) → cst p q ∈ es2, rt := Q } [some (.ref a), some (.ref b), some (.ref s), some x, some z, none, none, none] H7 := fun nn => by
        refine ⟨_, rfl, _, rfl, _, rfl, x, z, p, p2, rfl, ix, iz, wn_ok ok1 ep, wn_ok ok2 ep2, nn, ?_⟩
        refine ⟨s, es2.map ko, ko (cst p p2), rfl, (lfV_ko _).symm, eS7, by rw [List.length_map]; exact small1000 (by omega), ?_⟩
        rw [putL_ko]
        have pl := putN_len es2 (cst p p2)
        refine ⟨_, putN es2 (cst p p2), rfl, fun b' o' e => by rw [upd_ne (ne_of_none e ns)]; exact s7 _ _ e, t7.trans (tk_upd eS7 fun xs z => by cases z), by rw [upd_ne nls]; exact eA7, by rw [upd_ne nbs]; exact eB7, upd_same, by omega, fun e he => mem_putN.mpr (.inl (sub e he)), fun j' hj' q' hq' nn' => ?_⟩
        rw [mem_putN]
        by_cases h : j' = j
        · subst h
          rw [ep2] at hq'
          cases hq'
          exact .inr rfl
        · exact .inl (ec2 j' (by omega) q' hq' nn')
      cases p with
      | some pb =>
        obtain ⟨u, rfl, _⟩ := id ix
        exact ⟨_, rfl, _, rfl, iteT (iteT (set fun z => by cases z.1))⟩
      | none =>
        have ix : x = .non := ix
        subst ix
        cases p2 with
        | some pb =>
          obtain ⟨u, rfl, _⟩ := id iz
          exact ⟨_, rfl, _, rfl, iteF ⟨_, rfl, _, rfl, iteT (set fun z => by cases z.2)⟩⟩
        | none =>
          have iz : z = .non := iz
          subst iz
          refine ⟨_, rfl, _, rfl, iteF ⟨_, rfl, _, rfl, iteF ⟨_, es2, rfl, s7, t7, eA7, eB7, eS7, by omega, sub, fun j' hj' q' hq' nn' => ?_⟩⟩⟩
          by_cases h : j' = j
          · subst h
            rw [ep2] at hq'
            cases hq'
            exact absurd ⟨rfl, rfl⟩ nn'
          · exact ec2 j' (by omega) q' hq' nn'
    · obtain ⟨y4', es2, rfl, s7, t7, eA7, eB7, eS7, el2, sub, ec2⟩ := pv
      rw [hlb] at el2 ec2
      refine ⟨_, _, es2, rfl, s7, t6.trans t7, eA7, eS7, by omega, sub _ e0, fun i' hi' p' q' j' hp' hq' nn' => ?_⟩
      by_cases h : i' = i
      · subst h
        rw [ep] at hp'
        cases hp'
        refine ec2 j' ?_ q' hq' nn'
        have := (List.getElem?_eq_some_iff.mp hq').1
        rw [wn_len] at this
        exact this
      · exact sub _ (ec i' (by omega) p' q' j' hp' hq' nn')
  · obtain ⟨y3, y4, es, rfl, s5, t5, eA5, eS5, el, e0, ec⟩ := pv
    rw [hla] at el ec
    -- the least number is among them
    have hc0 : some c0 ∈ es := by
      rcases hcand with e | ⟨p, q', hp, hq', nn, e⟩
      · rw [e]; exact e0
      · obtain ⟨i, hi, ei⟩ := wn_mem hp
        obtain ⟨j, hj, ej⟩ := wn_mem hq'
        rw [wn_len] at hi
        have := ec i hi p q' j ei ej nn
        rw [e] at this
        exact this
    refine ⟨s, _, eS5, True.intro, fun od => ?_⟩
    have eSL : (upd H5 s (.frz od (LfO P w s (es.map ko)))) s = some (.frz od (LfO P w s (es.map ko))) := upd_same
    have sL : Same H2 (upd H5 s (.frz od (LfO P w s (es.map ko)))) := fun b' o' e => by rw [upd_ne (ne_of_none e ns)]; exact s5 _ _ e
    generalize upd H5 s (.frz od (LfO P w s (es.map ko))) = H6 at eSL sL
    refine ⟨_, rfl, s, od, _, rfl, eSL, fun D hD => lc_flt (walk_lf (ks := es.map ko)) (fun i => (es.getD i none).isSome) (fun i y H => ∃ c : Nat, es[i]? = some (some c) ∧ y = .int (c : Nat)) (fun i y H H' _ h => h) (fun H' sm => sm _ _ eSL) (by rw [List.length_map]; exact small1000 (by omega)) hD
      (fun i x H7 H8 R N hi sm _ hy r nr => ?_) fun H7 ys sm eD hyl hy => ?_⟩
    · obtain ⟨rfl, y, hy, rfl⟩ := hy
      rw [List.getElem?_map] at hy
      obtain ⟨e, he, rfl⟩ := Option.map_eq_some_iff.mp hy
      have eg : es.getD i none = e := by rw [List.getD_eq_getElem?_getD, he]; rfl
      rw [eg] at r nr
      rw [lfV_ko]
      cases e with
      | none => exact ⟨rfl, _, rfl, _, rfl, iteF (nr rfl _ (Same.refl _))⟩
      | some c => exact ⟨rfl, _, rfl, _, rfl, iteT ⟨_, rfl, r rfl _ _ (Same.refl _) ⟨c, he, rfl⟩⟩⟩
    · refine ⟨sm _ _ eSL, ?_⟩
      have nDs : D ≠ s := fun z => by rw [z, eSL] at hD; cases hD
      have s8 : Same H2 (upd H7 s (LfO P w s (es.map ko))) := fun b' o' e => by rw [upd_ne (ne_of_none e ns)]; exact sm _ _ (sL _ _ e)
      have eD8 : (upd H7 s (LfO P w s (es.map ko))) D = some (.lst ys) := by rw [upd_ne nDs]; exact eD
      generalize upd H7 s (LfO P w s (es.map ko)) = H8 at s8 eD8
      rw [List.length_map] at hyl hy
      generalize hjs : (List.range es.length).filter (fun i => (es.getD i none).isSome) = is at hyl hy
      let val : Nat → Nat := fun i => (es.getD i none).getD 0
      have eys : ys = ((is.map val).map fun n : Nat => (n : Int)).map V.int := by
        refine List.ext_getElem? fun j => ?_
        rw [List.map_map, List.map_map, List.getElem?_map]
        by_cases hj : j < ys.length
        · have e1 : ys[j]? = some ys[j] := List.getElem?_eq_getElem hj
          obtain ⟨i, ei, c, hc, ey⟩ := hy j _ e1
          rw [e1, ei, ey]
          show _ = some (V.int ((val i : Nat) : Int))
          have : val i = c := by show (es.getD i none).getD 0 = c; rw [List.getD_eq_getElem?_getD, hc]; rfl
          rw [this]
        · rw [List.getElem?_eq_none (by omega), List.getElem?_eq_none (by omega)]
          rfl
      refine ⟨D, (is.map val).map fun n : Nat => (n : Int), rfl, SqL.of (by rw [eD8, eys]), fun ns' u hperm hsrt nu => ?_⟩
      have s9 : Same H8 (upd H8 u (.lst (ns'.map V.int))) := same_upd nu
      have eu : (upd H8 u (.lst (ns'.map V.int))) u = some (.lst (ns'.map V.int)) := upd_same
      have sE : Same H2 (upd H8 u (.lst (ns'.map V.int))) := s8.trans s9
      generalize upd H8 u (.lst (ns'.map V.int)) = H9 at eu sE
      have hmem : ((c0 : Nat) : Int) ∈ ns' := by
        refine hperm.mem_iff.mpr (List.mem_map.mpr ⟨c0, ?_, rfl⟩)
        obtain ⟨i, hi⟩ := List.getElem?_of_mem hc0
        have eg : es.getD i none = some c0 := by rw [List.getD_eq_getElem?_getD, hi]; rfl
        refine List.mem_map.mpr ⟨i, ?_, by show (es.getD i none).getD 0 = c0; rw [eg]; rfl⟩
        rw [← hjs]
        exact List.mem_filter.mpr ⟨List.mem_range.mpr (List.getElem?_eq_some_iff.mp hi).1, by rw [eg]; rfl⟩
      obtain ⟨k0, hk0⟩ := List.getElem?_of_mem hmem
      refine ⟨u, rfl, ⟨_, SqL.of eu⟩, for_list (xs := ns'.map V.int) (fun i σ H' => ∃ y5 y6, σ = [some (.ref a), some (.ref b), some (.ref s), y3, y4, y5, y6, none] ∧ Same H2 H' ∧ H' u = some (.lst (ns'.map V.int)) ∧ ∃ j, i ≤ j ∧ ns'[j]? = some ((c0 : Nat) : Int))
        ⟨none, none, rfl, sE, eu, k0, Nat.zero_le _, hk0⟩ (fun i σ H' _ p => by obtain ⟨_, _, _, _, e, _⟩ := p; exact SqL.of e) (fun i x σ Ha hx pv => ?_) fun σ Ha pv => ?_⟩
      · obtain ⟨y5, y6, rfl, sa, eua, j, hij, hj⟩ := pv
        rw [List.getElem?_map] at hx
        obtain ⟨n, hn, rfl⟩ := Option.map_eq_some_iff.mp hx
        obtain ⟨c, hc1, rfl⟩ : ∃ c : Nat, c ∈ is.map val ∧ (c : Int) = n := List.mem_map.mp (hperm.mem_iff.mp (List.mem_of_getElem? hn))
        have hle : c ≤ c0 := by
          by_cases e : i = j
          · subst e
            rw [hn] at hj
            have := Option.some.inj hj
            omega
          · obtain ⟨li, ei⟩ := List.getElem?_eq_some_iff.mp hn
            obtain ⟨lj, ej⟩ := List.getElem?_eq_some_iff.mp hj
            have := List.pairwise_iff_getElem.mp hsrt i j li lj (by omega)
            rw [ei, ej] at this
            omega
        have sF := sA.trans sa
        refine ⟨_, rfl, _, rfl, _, rfl, a, b, c, z1, z2, one, other, rfl, sF _ _ ea, sF _ _ eb, r1.tk IsB.stb (same_tk sF), r2.tk IsB.stb (same_tk sF), l1, l2, ok1, ok2, fun Hb sb nf => ?_, fun Hb r xs sb er => ?_⟩
        · refine ⟨_, rfl, _, rfl, iteF ⟨_, _, rfl, sa.trans sb, sb _ _ eua, j, ?_, hj⟩⟩
          by_cases e : i = j
          · subst e
            rw [hn] at hj
            have e2 : c = c0 := by have := Option.some.inj hj; omega
            rw [e2] at nf
            exact absurd ⟨js, hF0⟩ nf
          · omega
        · refine ⟨_, rfl, _, rfl, iteT ⟨_, rfl, _, rfl, by show 2 ≤ sizeLine; decide, fun t nt => ?_⟩⟩
          exact q _ t r c (sF.trans (sb.trans (same_upd nt))) upd_same (by omega)
      · obtain ⟨y5, y6, rfl, sa, eua, j, hij, hj⟩ := pv
        exfalso
        have := (List.getElem?_eq_some_iff.mp hj).1
        rw [List.length_map] at hij
        omega
end
end G98
namespace G98
open PySem PySem.Spec PyProof.Rows L2
/-! ### the row of the law -/
def RowAt (K : PySem.W.Frag) (sc : Addr) (ns : List Int) (H : Hp) (rw : Addr) : Prop := SqL K H sc (ns.map V.int) ∧ ∃ c s r : Int, H rw = some (.lst [.ref sc, .int c, .int s, .int r]) ∧ 0 ≤ c ∧ 0 ≤ s ∧ s < 2147483647 ∧ 0 ≤ r
theorem SameBut.refl (p : Addr) (H : Hp) : SameBut p H H := fun _ _ _ e => e
theorem SameBut.trans {p : Addr} {A B C : Hp} (a : SameBut p A B) (b : SameBut p B C) : SameBut p A C := fun c o h e => b c o h (a c o h e)
theorem SameBut.of {p : Addr} {A B : Hp} (s : Same A B) : SameBut p A B := fun c o _ e => s c o e
theorem SameBut.same {p : Addr} {A B : Hp} (s : SameBut p A B) (h : A p = none) : Same A B := fun c o e => s c o (ne_of_none e h) e
theorem SameBut.tk {p : Addr} {A B : Hp} {l : List V} (s : SameBut p A B) (h : A p = some (.lst l)) : Tk A B := fun b xs e => s b _ (ne_of e h fun z => by cases z) e
theorem seq_but {K : PySem.W.Frag} {H H' : Hp} {rw sc : Addr} {ns : List Int} {r : List V} (h : SqL K H sc (ns.map V.int)) (e : H rw = some (.lst (.ref sc :: r))) (s : SameBut rw H H') : SqL K H' sc (ns.map V.int) := by
  rcases h with (h | ⟨o, h⟩) | h
  · refine .inl (.inl (s _ _ (fun z => ?_) h))
    rw [z, e] at h
    have h := HO.lst.inj (Option.some.inj h)
    cases ns with
    | nil => cases h
    | cons n ns => cases h
  · exact .inl (.inr ⟨o, s _ _ (fun z => by rw [z, e] at h; cases h) h⟩)
  · exact .inr h
theorem RowAt.put {K : PySem.W.Frag} {sc rw : Addr} {ns : List Int} {H H' : Hp} {c s r : Int} (h : RowAt K sc ns H rw) (sb : SameBut rw H H') (e : H' rw = some (.lst [.ref sc, .int c, .int s, .int r])) (hc : 0 ≤ c) (hs : 0 ≤ s) (hs2 : s < 2147483647) (hr : 0 ≤ r) : RowAt K sc ns H' rw := by
  obtain ⟨h1, c', s', r', e', _⟩ := h
  exact ⟨seq_but h1 e' sb, c, s, r, e, hc, hs, hs2, hr⟩
theorem RowAt.same {K : PySem.W.Frag} {sc rw : Addr} {ns : List Int} {H H' : Hp} (h : RowAt K sc ns H rw) (s : Same H H') : RowAt K sc ns H' rw := by
  obtain ⟨h1, c', s', r', e', r⟩ := h
  exact ⟨s.seq h1, c', s', r', s _ _ e', r⟩
theorem RowAt.lst {K : PySem.W.Frag} {sc rw : Addr} {ns : List Int} {H : Hp} (h : RowAt K sc ns H rw) : ∃ l, H rw = some (.lst (.ref sc :: l)) := let ⟨_, c, s, r, e, _⟩ := h; ⟨_, e⟩
theorem mod_nat (v : Int) {m : Nat} (h : 0 < m) : ∃ x : Nat, v % (m : Int) = (x : Int) ∧ x < m := ⟨(v % (m : Int)).toNat, by have := Int.emod_nonneg v (show (m : Int) ≠ 0 by omega); omega, by
  have := Int.emod_nonneg v (show (m : Int) ≠ 0 by omega)
  have := Int.emod_lt_of_pos v (show (0 : Int) < m by omega)
  omega⟩
section
variable {P : Program} {w : World} {K : PySem.W.Frag} {mg : Str → Option Value} {base : Heap}
abbrev sTak : Stmt := topS 49
abbrev nTak : List Str := ["_law_row", "_law_many", "_law_found", "_law_cell"]
def spTak (K : PySem.W.Frag) : Sp := fun vs H Q _ => ∃ (rw sc : Addr) (ns : List Int) (m : Nat), vs = [.ref rw, .int (m : Nat)] ∧ 0 < m ∧ m ≤ 1000 ∧ RowAt K sc ns H rw ∧ ∀ H' (x : Nat), SameBut rw H H' → RowAt K sc ns H' rw → x < m → Q (.int (x : Nat)) H'
theorem scTak : FnScope nTak ["_law_row", "_law_many"] (defScope sTak) := ⟨rfl, rfl, rfl, by decide +kernel, rfl, by decide +kernel, by decide +kernel⟩
theorem ok_tak {f : Addr} {fd : FuncData} (T : Txt mg) (F : Fun K "_law_taken" "_law_taken" sTak f fd) : FnOk P w K mg base CX0 1 f fd ["_law_row", "_law_many"] (spTak K) := by
  refine F.ok scTak (fun vs H Q E h => ?_) (fun cdv A outer s0 H vs Q E hr h => ?_)
  · obtain ⟨rw, sc, ns, m, rfl, _⟩ := h
    rfl
  obtain ⟨rw, sc, ns, m, rfl, m0, m1, ra, q⟩ := h
  obtain ⟨hsc, c, s, r, er, c0, s0', s1, r0⟩ := id ra
  refine ⟨_, pss_cons (ps_if (pt_cmpR op_gt (pe_ix ix_list (pv 0) pe_int (fun _ _ => rfl)) pe_int (nomark _))
      (pss_cons (ps_set (i := 2) scTak.nd rfl (.inl rfl) (pe_op op_mod (pe_callTy call_int1 (by rfl) T.int (by decide +kernel) (pa_cons (pe_ix ix_list (pv 0) pe_int (fun _ _ => rfl)) pa_nil)) (pv 1)))
        (pss_cons (ps_asg (pe_op op_fdiv (pe_ix ix_list (pv 0) pe_int (fun _ _ => rfl)) (pv 1)) (pg_sub (pv 0) pe_int set_list)) (pss_one (ps_ret (pv 2))))) pss_nil)
    (pss_cons (ps_asg (pe_op op_add (pe_ix ix_list (pv 0) pe_int (fun _ _ => rfl)) pe_int) (pg_sub (pv 0) pe_int set_list))
    (pss_cons (ps_if (pt_cmpR op_gt (pe_ix ix_list (pv 0) pe_int (fun _ _ => rfl)) (pe_callB call_len_seq (by rfl) T.len PySem.boot_len (pa_cons (pe_ix ix_list (pv 0) pe_int (fun _ _ => rfl)) pa_nil)) (nomark _))
      (pss_cons (ps_asg (pe_op op_mod (pe_callTy call_int1 (by rfl) T.int (by decide +kernel) (pa_cons (pe_op op_add (pe_op op_mul (pe_ix ix_list (pv 0) pe_int (fun _ _ => rfl)) pe_int) pe_int) pa_nil)) pe_int) (pg_sub (pv 0) pe_int set_list))
        (pss_one (ps_ret (pe_op op_mod (pe_callTy call_int1 (by rfl) T.int (by decide +kernel) (pa_cons (pe_op op_fdiv (pe_ix ix_list (pv 0) pe_int (fun _ _ => rfl)) pe_int) pa_nil)) (pv 1))))) pss_nil)
    (pss_cons (ps_set (i := 3) scTak.nd rfl (.inl rfl) (pe_ix ix_list (pe_ix ix_list (pv 0) pe_int (fun _ _ => rfl)) (pe_op op_sub (pe_ix ix_list (pv 0) pe_int (fun _ _ => rfl)) pe_int) (fun _ _ => rfl)))
    (pss_cons (ps_asg (pe_op op_mod (pe_callTy call_int1 (by rfl) T.int (by decide +kernel) (pa_cons (pe_op op_add (pe_op op_add (pe_op op_mul (pe_ix ix_list (pv 0) pe_int (fun _ _ => rfl)) pe_int) (pv 3)) pe_int) pa_nil)) pe_int) (pg_sub (pv 0) pe_int set_list))
    (pss_cons (ps_if (pt_cmpR op_ge (pv 3) (pe_op op_pow pe_int pe_int) (nomark _)) (pss_one (ps_asg (pe_op op_fdiv (pv 3) (pv 1)) (pg_sub (pv 0) pe_int set_list))) pss_nil)
    (pss_one (ps_ret (pe_op op_mod (pe_callTy call_int1 (by rfl) T.int (by decide +kernel) (pa_cons (pv 3) pa_nil)) (pv 1))))))))), ?_⟩
  have dv : CDiv r (m : Int) := ⟨by omega, by omega⟩
  have bu : ∀ {H1 : Hp} {o : HO}, SameBut rw H H1 → SameBut rw H (upd H1 rw o) := fun sb b o' hb e => by rw [upd_ne hb]; exact sb b o' hb e
  refine ⟨_, rfl, rw, _, 3, _, rfl, rfl, SqL.of er, atI_nat (j := 3) rfl, _, _, rfl, rfl, _, rfl, ?_⟩
  refine ite2 (fun e => ?_) (fun e => ?_)
  · have e := of_decide_eq_true e
    obtain ⟨x, hx, hxm⟩ := mod_nat r m0
    refine ⟨_, rfl, rw, _, 3, _, rfl, rfl, SqL.of er, atI_nat (j := 3) rfl, .inl ⟨_, rfl, _, rfl, _, _, rfl, rfl, by show (0 : Int) < m; omega, ?_⟩⟩
    refine ⟨_, rfl, rw, _, 3, _, rfl, rfl, SqL.of er, atI_nat (j := 3) rfl, _, rfl, _, _, rfl, rfl, dv, ?_⟩
    refine ⟨_, rfl, rw, _, 3, 3, rfl, rfl, er, rfl, ?_⟩
    refine ⟨_, rfl, ?_⟩
    have fin := q _ x (bu (SameBut.refl _ _)) (ra.put (bu (SameBut.refl _ _)) (c := c) (s := s) (r := r / (m : Int)) upd_same c0 s0' s1 (Int.ediv_nonneg r0 (by omega))) hxm
    rw [← hx] at fin
    exact fin
  · refine ⟨_, rfl, rw, _, 1, _, rfl, rfl, SqL.of er, atI_nat (j := 1) rfl, _, _, rfl, rfl, ?_⟩
    refine ⟨_, rfl, rw, _, 1, 1, rfl, rfl, er, rfl, ?_⟩
    have sb1 : SameBut rw H (upd H rw (.lst [.ref sc, .int (c + 1), .int s, .int r])) := bu (SameBut.refl _ _)
    have er1 : (upd H rw (.lst [.ref sc, .int (c + 1), .int s, .int r])) rw = some (.lst [.ref sc, .int (c + 1), .int s, .int r]) := upd_same
    have hsc1 := seq_but hsc er sb1
    refine ⟨_, rfl, rw, _, 1, _, rfl, rfl, SqL.of er1, atI_nat (j := 1) rfl, _, rfl, rw, _, 0, _, rfl, rfl, SqL.of er1, atI_nat (j := 0) rfl, sc, _, rfl, .inl hsc1, _, _, rfl, rfl, _, rfl, ?_⟩
    refine ite2 (fun e2 => ?_) (fun e2 => ?_)
    · refine ⟨_, rfl, rw, _, 2, _, rfl, rfl, SqL.of er1, atI_nat (j := 2) rfl, _, _, rfl, rfl, .inr ⟨by decide, by decide⟩, _, _, rfl, rfl, .inl ⟨_, rfl, _, _, rfl, rfl, (by show (0 : Int) < 2147483647; decide), ?_⟩⟩
      refine ⟨_, rfl, rw, _, 2, 2, rfl, rfl, er1, rfl, ?_⟩
      have hs' := Int.emod_nonneg (s * 48271 + 11) (show (2147483647 : Int) ≠ 0 by decide)
      have hs'' := Int.emod_lt_of_pos (s * 48271 + 11) (show (0 : Int) < 2147483647 by decide)
      obtain ⟨x, hx, hxm⟩ := mod_nat ((s * 48271 + 11) % 2147483647 / 7) m0
      refine ⟨_, rfl, rw, _, 2, _, rfl, rfl, SqL.of upd_same, atI_nat (j := 2) rfl, _, _, rfl, rfl, ⟨by decide, by decide⟩, .inl ⟨_, rfl, _, rfl, _, _, rfl, rfl, by show (0 : Int) < m; omega, ?_⟩⟩
      have fin := q _ x (bu sb1) (ra.put (bu sb1) (c := c + 1) (s := (s * 48271 + 11) % 2147483647) (r := r) upd_same (by omega) hs' hs'' r0) hxm
      rw [← hx] at fin
      exact fin
    · have e2 : ¬ decide ((((ns.map V.int).length : Nat) : Int) < c + 1) = true := e2
      rw [decide_eq_true_eq, List.length_map] at e2
      obtain ⟨v, hv⟩ : ∃ v, ns[c.toNat]? = some v := ⟨ns[c.toNat]'(by omega), List.getElem?_eq_getElem _⟩
      have hat : atI (ns.map V.int) (c + 1 - 1) = some (.int v) := by
        have e3 : c + 1 - 1 = ((c.toNat : Nat) : Int) := by omega
        rw [e3]
        exact atI_nat (by rw [List.getElem?_map, hv]; rfl)
      refine ⟨_, rfl, rw, _, 0, _, rfl, rfl, SqL.of er1, atI_nat (j := 0) rfl, _, rfl, rw, _, 1, _, rfl, rfl, SqL.of er1, atI_nat (j := 1) rfl, _, _, rfl, rfl, sc, _, _, _, rfl, rfl, hsc1, hat, ?_⟩
      refine ⟨_, rfl, rw, _, 2, _, rfl, rfl, SqL.of er1, atI_nat (j := 2) rfl, _, _, rfl, rfl, .inr ⟨by decide, by decide⟩, _, rfl, _, _, rfl, rfl, _, _, rfl, rfl, .inl ⟨_, rfl, _, _, rfl, rfl, (by show (0 : Int) < 2147483647; decide), ?_⟩⟩
      refine ⟨_, rfl, rw, _, 2, 2, rfl, rfl, er1, rfl, ?_⟩
      have hs' := Int.emod_nonneg (s * 48271 + v + 11) (show (2147483647 : Int) ≠ 0 by decide)
      have hs'' := Int.emod_lt_of_pos (s * 48271 + v + 11) (show (0 : Int) < 2147483647 by decide)
      have sb2 : SameBut rw H (upd (upd H rw (.lst [.ref sc, .int (c + 1), .int s, .int r])) rw (.lst [.ref sc, .int (c + 1), .int ((s * 48271 + v + 11) % 2147483647), .int r])) := bu sb1
      have er2 : (upd (upd H rw (.lst [.ref sc, .int (c + 1), .int s, .int r])) rw (.lst [.ref sc, .int (c + 1), .int ((s * 48271 + v + 11) % 2147483647), .int r])) rw = some (.lst [.ref sc, .int (c + 1), .int ((s * 48271 + v + 11) % 2147483647), .int r]) := upd_same
      obtain ⟨x, hx, hxm⟩ := mod_nat v m0
      refine ⟨_, rfl, _, _, rfl, rfl, ⟨by decide, by decide, by decide⟩, _, _, rfl, rfl, _, rfl, ?_⟩
      refine ite2 (fun e3 => ?_) (fun e3 => ?_)
      · have e3 : decide ((10 : Int) ^ (18 : Int).toNat ≤ v) = true := e3
        have e3 := of_decide_eq_true e3
        have v0 : 0 ≤ v := Int.le_trans (by decide) e3
        refine ⟨_, rfl, _, rfl, _, _, rfl, rfl, ⟨by show (0 : Int) < m; omega, by show (m : Int) < _; omega⟩, ?_⟩
        refine ⟨_, rfl, rw, _, 3, 3, rfl, rfl, er2, rfl, ?_⟩
        refine ⟨_, rfl, .inl ⟨_, rfl, _, rfl, _, _, rfl, rfl, by show (0 : Int) < m; omega, ?_⟩⟩
        have fin := q _ x (bu sb2) (ra.put (bu sb2) (c := c + 1) (s := (s * 48271 + v + 11) % 2147483647) (r := v / (m : Int)) upd_same (by omega) hs' hs'' (Int.ediv_nonneg v0 (by omega))) hxm
        rw [← hx] at fin
        exact fin
      · refine ⟨_, rfl, .inl ⟨_, rfl, _, rfl, _, _, rfl, rfl, by show (0 : Int) < m; omega, ?_⟩⟩
        have fin := q _ x sb2 (ra.put sb2 er2 (by omega) hs' hs'' r0) hxm
        rw [← hx] at fin
        exact fin
abbrev sPick : Stmt := topS 50
def spPick (K : PySem.W.Frag) : Sp := fun vs H Q _ => ∃ (rw sc t : Addr) (ns : List Int) (l : List Nat), vs = [.ref rw, .ref t] ∧ 0 < l.length ∧ l.length ≤ 1000 ∧ H t = some (.lst (l.map fun n : Nat => V.int (n : Nat))) ∧ RowAt K sc ns H rw ∧ ∀ H' (x : Nat), SameBut rw H H' → RowAt K sc ns H' rw → x ∈ l → Q (.int (x : Nat)) H'
theorem scPick : FnScope ["_law_row", "_law_things"] ["_law_row", "_law_things"] (defScope sPick) := ⟨rfl, rfl, rfl, by decide +kernel, rfl, by decide +kernel, by decide +kernel⟩
theorem ok_pick {f : Addr} {fd : FuncData} (T : Txt mg) (DT : Df P w K mg base 1 "_law_taken" ["_law_row", "_law_many"] (spTak K)) (F : Fun K "_law_pick" "_law_pick" sPick f fd) : FnOk P w K mg base CX0 2 f fd ["_law_row", "_law_things"] (spPick K) := by
  refine F.ok scPick (fun vs H Q E h => ?_) (fun cdv A outer s0 H vs Q E hr h => ?_)
  · obtain ⟨rw, sc, t, ns, m, rfl, _⟩ := h
    rfl
  obtain ⟨rw, sc, t, ns, l, rfl, l0, l1, et, ra, q⟩ := h
  refine ⟨_, pss_one (ps_ret (pe_ix ix_list (pv 1) (pe_f DT hr (pa_cons (pv 0) (pa_cons (pe_callB call_len_seq (by rfl) T.len PySem.boot_len (pa_cons (pv 1) pa_nil)) pa_nil))) (fun _ _ => rfl))), ?_⟩
  refine ⟨_, rfl, _, rfl, _, rfl, t, _, rfl, .inl (SqL.of et), rw, sc, ns, l.length, by rw [List.length_map]; rfl, l0, l1, ra, fun H' x sb ra' hx => ?_⟩
  have ntr : t ≠ rw := fun z => by
    obtain ⟨r, er⟩ := ra.lst
    rw [z, er] at et
    have e := HO.lst.inj (Option.some.inj et)
    cases l with
    | nil => cases e
    | cons a l => cases e
  refine ⟨t, _, _, .int (l[x] : Nat), rfl, rfl, SqL.of (sb _ _ ntr et), atI_nat (by rw [List.getElem?_map, List.getElem?_eq_getElem hx]; rfl), ?_⟩
  exact q H' _ sb ra' (List.getElem_mem hx)
end
end G98
namespace G98
open PySem PySem.Spec PyProof.Rows L2
theorem in5 {s : List Nat} (h : s.Pairwise (· < ·)) (h5 : ∀ n ∈ s, n < 5) (h1 : 1 ≤ s.length) (h3 : s.length ≤ 3) : s ∈ U25 := by
  have d1 : ∀ a, a < 5 → [a] ∈ U25 := by decide +kernel
  have d2 : ∀ a, a < 5 → ∀ b, b < 5 → a < b → [a, b] ∈ U25 := by decide +kernel
  have d3' : ∀ a b c : Fin 5, a.1 < b.1 → b.1 < c.1 → [a.1, b.1, c.1] ∈ U25 := by decide +kernel
  have d3 : ∀ a, a < 5 → ∀ b, b < 5 → ∀ c, c < 5 → a < b → b < c → [a, b, c] ∈ U25 := fun a ha b hb c hc h1 h2 => d3' ⟨a, ha⟩ ⟨b, hb⟩ ⟨c, hc⟩ h1 h2
  match s, h, h5, h1, h3 with
  | [a], _, h5, _, _ => exact d1 a (h5 a (by simp))
  | [a, b], h, h5, _, _ => exact d2 a (h5 a (by simp)) b (h5 b (by simp)) (by simp at h; exact h)
  | [a, b, c], h, h5, _, _ =>
    have h := List.pairwise_cons.mp h
    have h' := List.pairwise_cons.mp h.2
    exact d3 a (h5 a (by simp)) b (h5 b (by simp)) c (h5 c (by simp)) (h.1 b (by simp)) (h'.1 c (by simp))
  | _ :: _ :: _ :: _ :: _, _, _, _, h3 => simp at h3
theorem iv_int (s : List Nat) : iv s = (s.map fun n : Nat => (n : Int)).map V.int := by
  unfold iv
  rw [List.map_map]
  rfl
/-- what sorted gives of distinct numbers -/
theorem sort_asc {f : List Nat} {ns : List Int} (p : ns.Perm (f.map fun n : Nat => (n : Int))) (h : ns.Pairwise (· ≤ ·)) (hn : f.Nodup) : ∃ s : List Nat, ns.map V.int = iv s ∧ s.Perm f ∧ s.Pairwise (· < ·) := by
  obtain ⟨s, ps, e⟩ := perm_lift (f := fun n : Nat => (n : Int)) p.symm (Z := f) rfl
  subst e
  refine ⟨s, (iv_int s).symm, ps, ?_⟩
  rw [List.pairwise_map] at h
  have hs : s.Nodup := ps.nodup_iff.mpr hn
  exact List.Pairwise.imp₂ (fun a b h1 h2 => by have h1 : (a : Int) ≤ (b : Int) := h1; have h2 : a ≠ b := h2; omega) h hs
theorem erase_perm {l : List Nat} {k : Nat} (h : k < l.length) : l.Perm (l[k] :: l.eraseIdx k) := by
  have e : l = l.take k ++ l[k] :: l.drop (k + 1) := by rw [List.getElem_cons_drop, List.take_append_drop]
  rw [List.eraseIdx_eq_take_drop_succ]
  conv => lhs; rw [e]
  exact List.perm_middle
/-- a list comprehension whose turns draw from the row -/
theorem lc_row {J : It} {n : Nat} {G : Hp → Prop} {Y : Nat → Hp → V → Hp → Prop} (w : Walk J n G Y) {K : PySem.W.Frag} {sc rw : Addr} {ns : List Int} {g : TG} {te : TE} {vs : List Nat} {σ : Sl} {H1 : Hp} {D : Addr} {Qd : Hp → Prop} (F : Nat → V → Hp → Prop)
    (hF : ∀ i y H H', Tk H H' → F i y H → F i y H') (hG : ∀ H, SameBut rw H1 H → RowAt K sc ns H rw → G H) (hn : n < sizeLine) (hD : H1 D = none) (ra : RowAt K sc ns H1 rw)
    (hs : ∀ (i : Nat) (x : V) (H H2 : Hp) (R : VK), i < n → SameBut rw H1 H → RowAt K sc ns H rw → Y i H x H2 → (∀ y H3, SameBut rw H H3 → RowAt K sc ns H3 rw → F i y H3 → R y H3) → g x (wipe σ vs) H2 fun σ2 H3 => wipe σ2 vs = wipe σ vs ∧ te σ2 H3 R)
    (hd : ∀ (H' : Hp) (ys : List V), SameBut rw H1 H' → RowAt K sc ns H' rw → H' D = some (.lst ys) → ys.length = n → (∀ j y, ys[j]? = some y → F j y H') → Qd H') :
    ∃ W : Nat → Nat → Hp → Prop, (∃ m, W 0 m (upd H1 D (.lst []))) ∧ ∀ i m H, W i m H →
      (J.stop i H ∧ Qd H) ∨ (J.go i H ∧ ∃ Nx : Hp → Prop, (∀ H', Nx H' → ∃ m', m' < m ∧ W (i + 1) m' H') ∧ ∀ x H', J.yld i H x H' → g x (wipe σ vs) H' fun σ2 H2 => wipe σ2 vs = wipe σ vs ∧ tYes σ2 H2 fun b H3 =>
        if b = true then te σ2 H3 fun y H4 => ∃ acc, H4 D = some (.lst acc) ∧ acc.length < sizeLine ∧ Nx (upd H4 D (.lst (acc ++ [y]))) else Nx H3) := by
  have nDr : D ≠ rw := fun z => by
    obtain ⟨l, e⟩ := ra.lst
    rw [z, e] at hD
    cases hD
  let Pv : Nat → Hp → Prop := fun i H => SameBut rw H1 H ∧ RowAt K sc ns H rw ∧ ∃ ys : List V, H D = some (.lst ys) ∧ ys.length = i ∧ ∀ j y, ys[j]? = some y → F j y H
  refine lc_it w (tt := tYes) Pv ⟨SameBut.of (same_upd hD), ra.same (same_upd hD), [], upd_same, rfl, fun j y h => by simp at h⟩ (fun i H _ p => hG H p.1 p.2.1) (fun i x H H' hi p y => ?_) fun H p => ?_
  · obtain ⟨sm, ra1, ys, eD, hl, hy⟩ := p
    refine hs i x H H' (fun y H4 => ∃ acc, H4 D = some (.lst acc) ∧ acc.length < sizeLine ∧ Pv (i + 1) (upd H4 D (.lst (acc ++ [y])))) hi sm ra1 y fun z H3 s3 ra3 f3 => ?_
    have e3 : H3 D = some (.lst ys) := s3 D _ nDr eD
    obtain ⟨l1, el1⟩ := ra1.lst
    refine ⟨ys, e3, by omega, fun b o hb e => ?_, ?_, ys ++ [z], upd_same, by simp [hl], fun j u h => ?_⟩
    · rw [upd_ne (ne_of_none e hD)]
      exact s3 b o hb (sm b o hb e)
    · obtain ⟨h1, c, s, r, er, hh⟩ := ra3
      refine ⟨?_, c, s, r, by rw [upd_ne (Ne.symm nDr)]; exact er, hh⟩
      rcases h1 with (h1 | ⟨o, h1⟩) | h1
      · have e0 := ra.1
        by_cases hz : sc = D
        · subst hz
          rcases e0 with (e0 | ⟨o, e0⟩) | e0
          · rw [e0] at hD; cases hD
          · rw [e0] at hD; cases hD
          · exact .inr e0
        · exact .inl (.inl (by rw [upd_ne hz]; exact h1))
      · by_cases hz : sc = D
        · rw [hz, e3] at h1; cases h1
        · exact .inl (.inr ⟨o, by rw [upd_ne hz]; exact h1⟩)
      · exact .inr h1
    · refine hF j u H3 _ (tk_lst e3) ?_
      by_cases hj : j < i
      · rw [List.getElem?_append_left (by omega)] at h
        exact hF j u H H3 (s3.tk el1) (hy j u h)
      · rw [List.getElem?_append_right (by omega)] at h
        have hj2 : j = i := by
          have := (List.getElem?_eq_some_iff.mp h).1
          simp at this
          omega
        subst hj2
        rw [hl, Nat.sub_self] at h
        have e : z = u := by simpa using h
        subst e
        exact f3
  · obtain ⟨sm, ra1, ys, eD, hl, hy⟩ := p
    exact hd H ys sm ra1 eD hl hy
/-- rows of simplices of five -/
theorem some_ss {H : Hp} : ∀ {ys : List V}, (∀ (j : Nat) (y : V), ys[j]? = some y → ∃ s, s ∈ U25 ∧ IsS H y s) → ∃ ss, LV H ys ss ∧ ∀ s ∈ ss, s ∈ U25
  | [], _ => ⟨[], LV.nil, fun s h => by cases h⟩
  | y :: ys, h => by
    obtain ⟨ss, l, hu⟩ := some_ss (ys := ys) fun j z e => h (j + 1) z e
    obtain ⟨s, hs, i⟩ := h 0 y rfl
    exact ⟨[s] ++ ss, (LV.one i).app l, fun t ht => by
      rcases List.mem_cons.mp ht with e | e
      · rw [e]; exact hs
      · exact hu t e⟩
section
variable {P : Program} {w : World} {K : PySem.W.Frag} {mg : Str → Option Value} {base : Heap}
abbrev sLx : Stmt := topS 51
abbrev nLx : List Str := ["_law_row", "_law_most", "_law_size", "_law_left", "_law_found", "_law_turn"]
def spLx (K : PySem.W.Frag) : Sp := fun vs H Q _ => ∃ (rw sc : Addr) (ns : List Int), vs = [.ref rw, .int 5, .int 3] ∧ RowAt K sc ns H rw ∧ ∀ H' p s, SameBut rw H H' → RowAt K sc ns H' rw → H' p = some (.tup (iv s)) → s ∈ U25 → Q (.ref p) H'
theorem scLx : FnScope nLx ["_law_row", "_law_most", "_law_size"] (defScope sLx) := ⟨rfl, rfl, rfl, by decide +kernel, rfl, by decide +kernel, by decide +kernel⟩
theorem ok_lx {f : Addr} {fd : FuncData} (T : Txt mg) (DT : Df P w K mg base 1 "_law_taken" ["_law_row", "_law_many"] (spTak K)) (F : Fun K "_law_simplex" "_law_simplex" sLx f fd) : FnOk P w K mg base CX0 2 f fd ["_law_row", "_law_most", "_law_size"] (spLx K) := by
  refine F.ok scLx (fun vs H Q E h => ?_) (fun cdv A outer s0 H vs Q E hr h => ?_)
  · obtain ⟨rw, sc, ns, rfl, _⟩ := h
    rfl
  obtain ⟨rw, sc, ns, rfl, ra, q⟩ := h
  refine ⟨_, pss_cons (ps_par (i := 3) (j := 4) rfl scLx.nd rfl rfl (by decide) rfl rfl (pa_cons (pe_listRg rfl (by rfl) T.list (prg_1 (by rfl) T.range (pv 1))) (pa_cons (pe_lst pa_nil) pa_nil)) (by rfl))
    (pss_cons (ps_for PassesOwn.never rfl (pi_range1 (by rfl) T.range (pa_cons (pe_callB (call_min2 rfl) (by rfl) T.min (by decide +kernel) (pa_cons (pv 1) (pa_cons (pe_op op_add pe_int (pe_f DT hr (pa_cons (pv 0) (pa_cons (pv 2) pa_nil)))) pa_nil))) pa_nil)) (pg_name (i := 5) scLx.nd rfl (.inl rfl))
      (pss_one (ps_expr (pe_bm PySem.F.plainAttrs_list PySem.F.slot_list_append PySem.F.type_list_append mt_append (pv 4) (pa_cons
        (pe_bm PySem.F.plainAttrs_list PySem.F.slot_list_pop PySem.F.type_list_pop mt_popAt (pv 3) (pa_cons (pe_f DT hr (pa_cons (pv 0) (pa_cons (pe_callB call_len_seq (by rfl) T.len PySem.boot_len (pa_cons (pv 3) pa_nil)) pa_nil))) pa_nil)) pa_nil)))))
    (pss_one (ps_ret (pe_callTy call_tuple_of (by rfl) T.tuple (by decide +kernel) (pa_cons (pe_callB cr_sortedI (by rfl) T.sorted (by decide +kernel) (pa_cons (pv 4) pa_nil)) pa_nil))))), ?_⟩
  refine ⟨_, rfl, 5, rfl, ⟨by decide, by decide, by decide, by decide, by decide⟩, fun a na => ⟨by show 0 ≤ sizeLine; decide, fun b nb => ⟨_, _, rfl, ?_⟩⟩⟩
  have nab : a ≠ b := fun z => by rw [← z, upd_same] at nb; cases nb
  have nbH : H b = none := by rw [upd_ne (Ne.symm nab)] at nb; exact nb
  have s1 : Same H (upd (upd H a (.lst (rgV 0 5))) b (.lst [])) := (same_upd na).trans (same_upd nb)
  have ea1 : (upd (upd H a (.lst (rgV 0 5))) b (.lst [])) a = some (.lst (iv (List.range 5))) := by rw [upd_ne nab, upd_same]; rfl
  have eb1 : (upd (upd H a (.lst (rgV 0 5))) b (.lst [])) b = some (.lst (iv [])) := upd_same
  generalize upd (upd H a (.lst (rgV 0 5))) b (.lst []) = H1 at s1 ea1 eb1
  have ra1 := ra.same s1
  obtain ⟨l0, el0⟩ := ra.lst
  have nar : a ≠ rw := fun z => by rw [z, el0] at na; cases na
  have nbr : b ≠ rw := fun z => by rw [z, el0] at nbH; cases nbH
  refine ⟨_, rfl, _, rfl, _, rfl, rw, sc, ns, 3, rfl, by decide, by decide, ra1, fun H2 x sb2 ra2 hx => ⟨_, _, rfl, rfl, _, _, rfl, ?_⟩⟩
  have emin : (if ((1 : Int) + (x : Int)) < 5 then ((1 : Int) + (x : Int)) else 5) = ((1 + x : Nat) : Int) := by rw [if_pos (by omega)]; omega
  refine ⟨((1 + x : Nat) : Int), congrArg (fun z => [V.int z]) emin, by omega, by omega, ?_⟩
  have e0 : (((1 + x : Nat) : Int)).toNat = 1 + x := rfl
  rw [e0]
  have sA : SameBut rw H H2 := (SameBut.of s1).trans sb2
  refine for_range (n := 1 + x) (fun i σ H' => ∃ (y5 : Option V) (l f : List Nat), σ = [some (.ref rw), some (.int 5), some (.int 3), some (.ref a), some (.ref b), y5] ∧ SameBut rw H H' ∧ RowAt K sc ns H' rw ∧ H' a = some (.lst (iv l)) ∧ H' b = some (.lst (iv f)) ∧ (l ++ f).Perm (List.range 5) ∧ f.length = i)
    ⟨none, List.range 5, [], rfl, sA, ra2, sb2 _ _ nar ea1, sb2 _ _ nbr eb1, by rw [List.append_nil], rfl⟩ (fun i σ H3 hi p => ?_) fun σ H3 p => ?_
  · obtain ⟨y5, l, f, rfl, sb, ra3, ea, eb, pm, fl⟩ := p
    have ll : l.length + f.length = 5 := by
      have := pm.length_eq
      rw [List.length_append, List.length_range] at this
      exact this
    refine ⟨_, rfl, .inl ⟨rfl, _, SqL.of eb⟩, _, rfl, .inl ⟨rfl, _, SqL.of ea⟩, _, rfl, _, rfl, a, _, rfl, .inl (SqL.of ea), rw, sc, ns, l.length, by rw [iv_len]; rfl, by omega, by omega, ra3, fun H4 k sb4 ra4 hk => ?_⟩
    have ea4 := sb4 _ _ nar ea
    have eb4 := sb4 _ _ nbr eb
    have hsi : seqIndex? (k : Int) (iv l).length = some k := by
      rw [iv_len]
      unfold seqIndex?
      have h1 : ¬ ((k : Int) < 0) := by omega
      simp only [h1, if_false]
      rw [if_pos (by simp; omega)]
      rfl
    have hlk : l[k]? = some l[k] := List.getElem?_eq_getElem hk
    refine ⟨a, _, _, k, .int (l[k] : Nat), rfl, rfl, ea4, by omega, by omega, hsi, by unfold iv; rw [List.getElem?_map, hlk]; rfl, ?_⟩
    have erl : (iv l).eraseIdx k = iv (l.eraseIdx k) := by
      unfold iv
      rw [List.eraseIdx_eq_take_drop_succ, List.eraseIdx_eq_take_drop_succ, List.map_append, List.map_take, List.map_drop]
    rw [erl]
    have sb5 : SameBut rw H (upd H4 a (.lst (iv (l.eraseIdx k)))) := fun b' o hb e => by rw [upd_ne (ne_of_none e na)]; exact sb4 _ _ hb (sb _ _ hb e)
    have eb5 : (upd H4 a (.lst (iv (l.eraseIdx k)))) b = some (.lst (iv f)) := by rw [upd_ne (Ne.symm nab)]; exact eb4
    have ea5 : (upd H4 a (.lst (iv (l.eraseIdx k)))) a = some (.lst (iv (l.eraseIdx k))) := upd_same
    have row5 : ∀ {H5 : Hp} {o : HO} {z : Addr}, z ≠ rw → H z = none → SameBut rw H H5 → RowAt K sc ns H5 rw → RowAt K sc ns (upd H5 z o) rw := fun {H5 o z} hz hn sbz r5 => by
      obtain ⟨h1, c, s, r, er, hh⟩ := r5
      obtain ⟨g1, _⟩ := ra
      refine ⟨seq_but g1 el0 fun b' o' hb e => by rw [upd_ne (ne_of_none e hn)]; exact sbz _ _ hb e, c, s, r, by rw [upd_ne (Ne.symm hz)]; exact er, hh⟩
    have ra5 := row5 (o := .lst (iv (l.eraseIdx k))) nar na (sb.trans sb4) ra4
    generalize upd H4 a (.lst (iv (l.eraseIdx k))) = H5 at sb5 eb5 ea5 ra5
    refine ⟨b, _, _, rfl, rfl, eb5, small1000 (by rw [iv_len]; omega), ?_⟩
    refine ⟨_, l.eraseIdx k, f ++ [l[k]], rfl, fun b' o hb e => by rw [upd_ne (ne_of_none e nbH)]; exact sb5 _ _ hb e, row5 nbr nbH sb5 ra5, by rw [upd_ne nab]; exact ea5, ?_, ?_, by simp [fl]⟩
    · rw [upd_same]
      unfold iv
      rw [List.map_append]
      rfl
    · refine List.Perm.trans ?_ pm
      have p1 : l.Perm (l[k] :: l.eraseIdx k) := erase_perm hk
      have p2 : (l.eraseIdx k ++ (f ++ [l[k]])).Perm (l.eraseIdx k ++ ([l[k]] ++ f)) := List.Perm.append_left _ List.perm_append_comm
      refine p2.trans ?_
      have p3 : (l.eraseIdx k ++ ([l[k]] ++ f)).Perm (([l[k]] ++ l.eraseIdx k) ++ f) := by
        rw [← List.append_assoc]
        exact List.Perm.append_right _ List.perm_append_comm
      exact p3.trans (List.Perm.append_right _ p1.symm)
  · obtain ⟨y5, l, f, rfl, sb, ra3, ea, eb, pm, fl⟩ := p
    have hnod : (l ++ f).Nodup := pm.nodup_iff.mpr List.nodup_range
    have fn : f.Nodup := (List.nodup_append.mp hnod).2.1
    refine ⟨_, rfl, b, f.map fun n : Nat => (n : Int), rfl, SqL.of (by rw [eb, iv_int]), fun ns' u hp hs nu => ⟨u, _, rfl, .inl ⟨SqL.of upd_same, fun t nt => ?_⟩⟩⟩
    obtain ⟨s, es, ps, sa⟩ := sort_asc hp hs fn
    rw [es]
    have s6 : Same H3 (upd (upd H3 u (.lst (ns'.map V.int))) t (.tup (iv s))) := (same_upd nu).trans (same_upd nt)
    rw [es] at s6
    refine q _ t s (sb.trans (SameBut.of s6)) (ra3.same s6) upd_same (in5 sa (fun n hn => ?_) ?_ ?_)
    · exact List.mem_range.mp (pm.mem_iff.mp (List.mem_append_right _ (ps.mem_iff.mp hn)))
    · rw [ps.length_eq, fl]; omega
    · rw [ps.length_eq, fl]; omega
end
end G98
namespace G98
open PySem PySem.Spec PyProof.Rows L2
abbrev rTof (K : PySem.W.Frag) : List V → Hp → VK → Prop := fun xs H Q => ∃ p ys, xs = [.ref p] ∧ ((SqL K H p ys ∧ ∀ l, H l = none → Q (.ref l) (upd H l (.tup ys))) ∨ (SqT K H p ys ∧ Q (.ref p) H))
abbrev rInt1 : List V → Hp → VK → Prop := fun xs H Q => (∃ i, xs = [.int i] ∧ Q (.int i) H) ∨ ∃ k, xs = [.bl k] ∧ Q (.int (if k then 1 else 0)) H
theorem nx_of {D : Ends} {σ : Sl} {H : Hp} (h : D.nx σ H) : tNext D σ H := h
theorem seq_never {c : TT} {t u r : L2.TS} {D : Ends} {σ : Sl} {H : Hp} (hc : ∀ R : Bool → Hp → Prop, R false H → c σ H R) (h : u { D with nx := r D } σ H) : tSeq (tIfS c t u) r D σ H := hc _ (iteF h)
section
variable {P : Program} {w : World} {K : PySem.W.Frag} {mg : Str → Option Value} {base : Heap}
abbrev sLS : Stmt := topS 52
abbrev nLS : List Str := ["_law_row", "_law_most", "_law_size", "_law_way", "_law_many", "_law_found", "_law_at", "_law_vertex", "_law_turn"]
def spLS (K : PySem.W.Frag) : Sp := fun vs H Q _ => ∃ (rw sc : Addr) (ns : List Int), vs = [.ref rw, .int 5, .int 3] ∧ RowAt K sc ns H rw ∧ ∀ H' p ss, SameBut rw H H' → RowAt K sc ns H' rw → TS H' p ss → (∀ s ∈ ss, s ∈ U25) → ss.length ≤ 400 → Q (.ref p) H'
theorem scLS : FnScope nLS ["_law_row", "_law_most", "_law_size"] (defScope sLS) := ⟨rfl, rfl, rfl, by decide +kernel, rfl, by decide +kernel, by decide +kernel⟩
theorem way0 : ∀ m : Fin 5, 2 ≤ m.1 → ∀ i : Fin 5, i.1 < m.1 → (List.range m.1).filter (fun j => !decide (j = i.1)) ∈ U25 := by decide +kernel
theorem ok_ls {f : Addr} {fd : FuncData} (T : Txt mg) (DT : Df P w K mg base 1 "_law_taken" ["_law_row", "_law_many"] (spTak K)) (DX : Df P w K mg base 2 "_law_simplex" ["_law_row", "_law_most", "_law_size"] (spLx K)) (F : Fun K "_law_simplices" "_law_simplices" sLS f fd) : FnOk P w K mg base CX0 3 f fd ["_law_row", "_law_most", "_law_size"] (spLS K) := by
  refine F.ok scLS (fun vs H Q E h => ?_) (fun cdv A outer s0 H vs Q E hr h => ?_)
  · obtain ⟨rw, sc, ns, rfl, _⟩ := h
    rfl
  obtain ⟨rw, sc, ns, rfl, ra, q⟩ := h
  refine ⟨_, pss_cons (ps_set (i := 3) scLS.nd rfl (.inl rfl) (pe_f DT hr (pa_cons (pv 0) (pa_cons pe_int pa_nil))))
    (pss_cons (ps_if (pt_cmpR op_eq (pv 3) pe_int (nomark _))
      (pss_cons (ps_set (i := 4) scLS.nd rfl (.inr rfl) (pe_op op_add pe_int (pe_f DT hr (pa_cons (pv 0) (pa_cons (pe_callB (call_min2 rfl) (by rfl) T.min (by decide +kernel) (pa_cons (pe_op op_sub (pv 1) pe_int) (pa_cons (pv 2) pa_nil))) pa_nil)))))
        (pss_one (ps_ret (pe_callTy call_tuple_of (by rfl) T.tuple (by decide +kernel) (pa_cons
          (pe_lc (own := [("_law_at", 6)]) (g := gName 6) (tt := tYes) (te := tCB (rTof K) (tCons (tLc (iRng1 (tCons (tVar 4) tNil)) (gName 7) (tTest (tOp rNe (tVar 7) (tVar 6))) (tVar 7) [7]) tNil)) rfl scLS.nd (pi_range1 (by rfl) T.range (pa_cons (pv 4) pa_nil)) (blkOk_by (N := nLS) (sc := defScope sLS) (by decide +kernel)) (fun _ _ _ _ _ => pg_name (i := 6) scLS.nd rfl (.inr rfl)) (fun _ _ _ _ _ => pts_nil)
            (fun _ _ _ _ _ => pe_callTy call_tuple_of (by rfl) T.tuple (by decide +kernel) (pa_cons
              (pe_lc (own := [("_law_vertex", 7)]) (g := gName 7) (tt := tTest (tOp rNe (tVar 7) (tVar 6))) (te := tVar 7) rfl scLS.nd (pi_range1 (by rfl) T.range (pa_cons (pv 4) pa_nil)) (blkOk_by (N := nLS) (by first | kernel_rfl | rfl)) (fun _ _ _ _ _ => pg_name (i := 7) scLS.nd rfl (.inl rfl)) (fun _ _ _ _ _ => pts_one (pt_cmpR op_ne (pv 7) (pv 6) (nomark _))) (fun _ _ _ _ _ => pv 7)) pa_nil))) pa_nil))))) pss_nil)
    (pss_cons (ps_if (PW.pt (pw_and (pt_cmpR op_eq (pv 3) pe_int (nomark _)) (pw_and (pt_cmpR op_gt (pv 1) pe_int (nomark _)) (pw_and1 (pt_cmpR op_gt (pv 2) pe_int (nomark _)))))) (pss_one ps_never) pss_nil)
    (pss_cons (ps_if (PW.pt (pw_and (pt_cmpR op_eq (pv 3) pe_int (nomark _)) (pw_and (pt_cmpR op_gt (pv 1) pe_int (nomark _)) (pw_and1 (pt_cmpR op_gt (pv 2) pe_int (nomark _)))))) (pss_cons ps_never (pss_cons ps_never (pss_one ps_never))) pss_nil)
    (pss_cons (ps_if (PW.pt (pw_and (pt_cmpR op_eq (pv 3) pe_int (nomark _)) (pw_and (pt_cmpR op_gt (pv 1) pe_int (nomark _)) (pw_and1 (pt_cmpR op_gt (pv 2) pe_int (nomark _))))))
      (pss_cons (ps_set (i := 4) scLS.nd rfl (.inr rfl) (pe_op op_add pe_int (pe_f DT hr (pa_cons (pv 0) (pa_cons (pe_op op_sub (pv 1) pe_int) pa_nil)))))
        (pss_one (ps_ret (pe_callTy call_tuple_of (by rfl) T.tuple (by decide +kernel) (pa_cons
          (pe_lc (own := [("_law_at", 6)]) (g := gName 6) (tt := tYes) (te := tCB (rTof K) (tCons (tCB (rSortedI K) (tCons (tLst (tCons (tVar 6) (tCons (tOp (rI (fun _ j => 0 < j) fun i j => .int (i % j)) (tCB rInt1 (tCons (tOp (rI0 fun i j => .int (i + j)) (tVar 6) (tC (.int 1))) tNil)) (tVar 4)) tNil))) tNil)) tNil)) rfl scLS.nd (pi_range1 (by rfl) T.range (pa_cons (pv 4) pa_nil)) (blkOk_by (N := nLS) (sc := defScope sLS) (by decide +kernel)) (fun _ _ _ _ _ => pg_name (i := 6) scLS.nd rfl (.inl rfl)) (fun _ _ _ _ _ => pts_nil)
            (fun _ _ _ _ _ => pe_callTy call_tuple_of (by rfl) T.tuple (by decide +kernel) (pa_cons
              (pe_callB cr_sortedI (by rfl) T.sorted (by decide +kernel) (pa_cons (pe_lst (pa_cons (pv 6) (pa_cons (pe_op op_mod (pe_callTy call_int1 (by rfl) T.int (by decide +kernel) (pa_cons (pe_op op_add (pv 6) pe_int) pa_nil)) (pv 4)) pa_nil))) pa_nil)) pa_nil))) pa_nil))))) pss_nil)
    (pss_one (ps_ret (pe_callTy call_tuple_of (by rfl) T.tuple (by decide +kernel) (pa_cons
      (pe_lc (own := [("_law_turn", 8)]) (g := gName 8) (tt := tYes) (te := tCall (spLx K) [] E0 (tCons (tVar 0) (tCons (tVar 1) (tCons (tVar 2) tNil)))) rfl scLS.nd (pi_range1 (by rfl) T.range (pa_cons (pe_f DT hr (pa_cons (pv 0) (pa_cons pe_int pa_nil))) pa_nil)) (blkOk_by (N := nLS) (sc := defScope sLS) (by decide +kernel)) (fun _ _ _ _ _ => pg_name (i := 8) scLS.nd rfl (.inl rfl)) (fun _ _ _ _ _ => pts_nil)
        (fun _ _ _ _ _ => pe_f DX hr (pa_cons (pv 0) (pa_cons (pv 1) (pa_cons (pv 2) pa_nil))))) pa_nil)))))))), ?_⟩
  refine ⟨_, rfl, rw, sc, ns, 9, rfl, by decide, by decide, ra, fun H1 way sb1 ra1 hw => ?_⟩
  have tup : ∀ (H2 : Hp) (D : Addr) (ys : List V), SameBut rw H H2 → RowAt K sc ns H2 rw → H2 D = some (.lst ys) → ys.length ≤ 400 → (∀ (j : Nat) (y : V), ys[j]? = some y → ∃ s, s ∈ U25 ∧ IsS H2 y s) → rTof K [.ref D] H2 Q := fun H2 D ys sb ra2 eD hl hy => by
    refine ⟨D, ys, rfl, .inl ⟨SqL.of eD, fun l nl => ?_⟩⟩
    obtain ⟨ss, lv, hu⟩ := some_ss hy
    have s2 : Same H2 (upd H2 l (.tup ys)) := same_upd nl
    exact q _ l ss (sb.trans (SameBut.of s2)) (ra2.same s2) ⟨ys, upd_same, lv.tk (same_tk s2)⟩ hu (by rw [← lv.len]; exact hl)
  have dint : ∀ (x y : Nat), decide (V.int (x : Nat) = V.int (y : Nat)) = decide (x = y) := fun x y => by
    rw [dec_int, Bool.eq_iff_iff, decide_eq_true_eq, beq_iff_eq]
    omega
  refine ⟨_, rfl, rfl, _, rfl, ?_⟩
  have e0 : decide (V.int (way : Nat) = V.int 0) = decide (way = 0) := dint way 0
  rw [e0]
  refine ite2 (fun hw0 => ?_) (fun hw0 => ?_)
  · -- the boundary of one simplex
    refine ⟨_, rfl, _, rfl, _, _, rfl, rfl, _, rfl, _, _, rfl, rw, sc, ns, 3, rfl, by decide, by decide, ra1, fun H2 x sb2 ra2 hx => ⟨_, _, rfl, rfl, ?_⟩⟩
    have sbA := sb1.trans sb2
    have em : ((2 : Int) + (x : Int)) = ((2 + x : Nat) : Int) := by omega
    have em2 : [V.int ((2 : Int) + (x : Int))] = [V.int ((2 + x : Nat) : Int)] := congrArg (fun z => [V.int z]) em
    generalize hm : 2 + x = m at em em2
    refine ⟨_, rfl, (m : Nat), em2, by omega, by omega, fun D hD => ?_⟩
    have et : (((m : Nat) : Int)).toNat = m := rfl
    rw [et]
    refine lc_map (walk_range (lo := 0) (n := m)) (fun i y H => ∃ s, s ∈ U25 ∧ IsS H y s) (fun i y H H' k h => let ⟨s, hs, h⟩ := h; ⟨s, hs, h.tk k⟩) (fun _ _ => True.intro) (small1000 (by omega)) hD (fun i z H3 H4 R hi sm _ hy r => ?_) fun H3 ys sm eD hyl hy => ?_
    · obtain ⟨rfl, rfl⟩ := hy
      refine ⟨rfl, _, rfl, (m : Nat), em2, by omega, by omega, fun D2 hD2 => ?_⟩
      rw [et]
      refine lc_flt (walk_range (lo := 0) (n := m)) (fun j => !decide (j = i)) (fun j y H => y = .int (j : Nat)) (fun j y H H' _ h => h) (fun _ _ => True.intro) (small1000 (by omega)) hD2 (fun j z H5 H6 R2 N hj sm2 _ hy2 r2 n2 => ?_) fun H5 us sm2 eD2 hul hu => ?_
      · obtain ⟨rfl, rfl⟩ := hy2
        refine ⟨rfl, _, rfl, _, rfl, rfl, _, rfl, ?_⟩
        have e1 : (!decide (V.int ((0 : Int) + (j : Int)) = V.int ((0 : Int) + (i : Int)))) = !decide (j = i) := by rw [Int.zero_add, Int.zero_add, dint]
        rw [e1]
        cases hji : (!decide (j = i)) with
        | true => exact iteT ⟨_, rfl, r2 hji _ _ (Same.refl _) (congrArg V.int (Int.zero_add _))⟩
        | false => exact iteF (n2 hji _ (Same.refl _))
      · have eus : us = iv ((List.range m).filter fun j => !decide (j = i)) := by
          refine List.ext_getElem? fun j => ?_
          unfold iv
          rw [List.getElem?_map]
          by_cases hj : j < us.length
          · have e1 : us[j]? = some us[j] := List.getElem?_eq_getElem hj
            obtain ⟨k, ek, ey⟩ := hu j _ e1
            rw [e1, ek, ey]
            rfl
          · rw [List.getElem?_eq_none (by omega), List.getElem?_eq_none (by omega)]
            rfl
        refine ⟨D2, us, rfl, .inl ⟨SqL.of eD2, fun l nl => r _ _ (sm2.trans (same_upd nl)) ⟨_, way0 ⟨m, by omega⟩ (by show 2 ≤ m; omega) ⟨i, by omega⟩ hi, l, rfl, by rw [upd_same, eus]⟩⟩⟩
    · exact tup _ D ys (sbA.trans (SameBut.of sm)) (ra2.same sm) eD (by omega) hy
  · have hw0 : ¬ way = 0 := fun z => hw0 (by simp [z])
    have e1 : decide (V.int (way : Nat) = V.int 1) = decide (way = 1) := dint way 1
    have e2 : decide (V.int (way : Nat) = V.int 2) = decide (way = 2) := dint way 2
    have e3 : decide (V.int (way : Nat) = V.int 3) = decide (way = 3) := dint way 3
    refine nx_of ?_
    dsimp only
    refine seq_never (fun R r => ⟨_, rfl, rfl, _, rfl, ite2 (fun _ => ⟨_, rfl, _, _, rfl, rfl, _, rfl, iteF r⟩) (fun _ => r)⟩) ?_
    refine nx_of ?_
    dsimp only
    refine seq_never (fun R r => ⟨_, rfl, rfl, _, rfl, ite2 (fun _ => ⟨_, rfl, _, _, rfl, rfl, _, rfl, iteF r⟩) (fun _ => r)⟩) ?_
    refine ⟨_, rfl, rfl, _, rfl, ?_⟩
    rw [e3]
    have rest : tRet (tCB (rTof K) (tCons (tLc (iRng1 (tCons (tCall (spTak K) [] E0 (tCons (tVar 0) (tCons (tC (.int 8)) tNil))) tNil)) (gName 8) tYes (tCall (spLx K) [] E0 (tCons (tVar 0) (tCons (tVar 1) (tCons (tVar 2) tNil)))) [8]) tNil)) { nx := fun x H' => Q .non H', rt := Q } [some (.ref rw), some (.int 5), some (.int 3), some (.int (way : Nat)), none, none, none, none, none] H1 := by
      refine ⟨_, rfl, rw, sc, ns, 8, rfl, by decide, by decide, ra1, fun H2 x sb2 ra2 hx => ?_⟩
      have sbA := sb1.trans sb2
      refine ⟨(x : Nat), rfl, by omega, by omega, fun D hD => ?_⟩
      have et : (((x : Nat) : Int)).toNat = x := rfl
      rw [et]
      refine lc_row (walk_range (lo := 0) (n := x)) (rw := rw) (fun i y H => ∃ s, s ∈ U25 ∧ IsS H y s) (fun i y H H' k h => let ⟨s, hs, h⟩ := h; ⟨s, hs, h.tk k⟩) (fun _ _ _ => True.intro) (small1000 (by omega)) hD ra2 (fun i z H3 H4 R hi sm ra3 hy r => ?_) fun H3 ys sm ra3 eD hyl hy => ?_
      · obtain ⟨rfl, rfl⟩ := hy
        exact ⟨rfl, _, rfl, _, rfl, _, rfl, rw, sc, ns, rfl, ra3, fun H5 p s sb5 ra5 ep hs => r _ _ sb5 ra5 ⟨s, hs, p, rfl, ep⟩⟩
      · exact tup _ D ys (sbA.trans sm) ra3 eD (by omega) hy
    refine ite2 (fun hw3 => ?_) (fun hw3 => iteF rest)
    refine ⟨_, rfl, _, _, rfl, rfl, _, rfl, iteT ⟨_, rfl, _, _, rfl, rfl, _, rfl, iteT ?_⟩⟩
    -- a ring
    refine ⟨_, rfl, _, rfl, _, _, rfl, rfl, rw, sc, ns, 3, rfl, by decide, by decide, ra1, fun H2 x sb2 ra2 hx => ⟨_, _, rfl, rfl, ?_⟩⟩
    have sbA := sb1.trans sb2
    have em : ((3 : Int) + (x : Int)) = ((3 + x : Nat) : Int) := by omega
    have em2 : [V.int ((3 : Int) + (x : Int))] = [V.int ((3 + x : Nat) : Int)] := congrArg (fun z => [V.int z]) em
    generalize hm : 3 + x = m at em em2
    refine ⟨_, rfl, (m : Nat), em2, by omega, by omega, fun D hD => ?_⟩
    have et : (((m : Nat) : Int)).toNat = m := rfl
    rw [et]
    refine lc_map (walk_range (lo := 0) (n := m)) (fun i y H => ∃ s, s ∈ U25 ∧ IsS H y s) (fun i y H H' k h => let ⟨s, hs, h⟩ := h; ⟨s, hs, h.tk k⟩) (fun _ _ => True.intro) (small1000 (by omega)) hD (fun i z H3 H4 R hi sm _ hy r => ?_) fun H3 ys sm eD hyl hy => ?_
    · obtain ⟨rfl, rfl⟩ := hy
      refine ⟨rfl, _, rfl, _, rfl, _, _, rfl, rfl, .inl ⟨_, rfl, _, rfl, _, _, rfl, rfl, by show (0 : Int) < 3 + (x : Int); omega, by show 2 ≤ sizeLine; decide, fun u nu => ?_⟩⟩
      have ea : ((0 : Int) + (i : Int)) = (i : Nat) := Int.zero_add _
      have eb : (((0 : Int) + (i : Int)) + 1) % ((3 : Int) + (x : Int)) = (((i + 1) % m : Nat) : Int) := by
        rw [em, ea]
        have := Int.natCast_emod (i + 1) m
        rw [this]
        rfl
      have elist : ([.int ((0 : Int) + (i : Int)), .int ((((0 : Int) + (i : Int)) + 1) % ((3 : Int) + (x : Int)))] : List V) = ([i, (i + 1) % m].map fun n : Nat => (n : Int)).map V.int := by
        rw [eb, ea]
        rfl
      have el : (upd H4 u (.lst [.int ((0 : Int) + (i : Int)), .int ((((0 : Int) + (i : Int)) + 1) % ((3 : Int) + (x : Int)))])) u = some (.lst (([i, (i + 1) % m].map fun n : Nat => (n : Int)).map V.int)) := by
        rw [upd_same, elist]
      refine ⟨u, [i, (i + 1) % m].map fun n : Nat => (n : Int), rfl, SqL.of el, fun ns' v hp hs nv => ⟨v, _, rfl, .inl ⟨SqL.of upd_same, fun t nt => ?_⟩⟩⟩
      have hne : i ≠ (i + 1) % m := by
        by_cases h : i + 1 = m
        · rw [h, Nat.mod_self]; omega
        · rw [Nat.mod_eq_of_lt (by omega)]; omega
      obtain ⟨s, es, ps, sa⟩ := sort_asc hp hs (by simpa using hne)
      have hlt : (i + 1) % m < m := Nat.mod_lt _ (by omega)
      refine r _ _ ((same_upd nu).trans ((same_upd nv).trans (same_upd nt))) ⟨s, in5 sa (fun n hn => ?_) ?_ ?_, t, rfl, by rw [upd_same, es]⟩
      · have := ps.mem_iff.mp hn
        rcases List.mem_cons.mp this with h | h
        · omega
        · have h : n = (i + 1) % m := by simpa using h
          omega
      · rw [ps.length_eq]; show 1 ≤ 2; decide
      · rw [ps.length_eq]; show 2 ≤ 3; decide
    · exact tup _ D ys (sbA.trans (SameBut.of sm)) (ra2.same sm) eD (by omega) hy
end
end G98
namespace G98
open PySem PySem.Spec PyProof.Rows L2
theorem keys_lv {H : Hp} : ∀ {ks : List (List Nat)} {bs : List Addr}, IsKeys H (encD ks) bs → LV H (bs.map V.ref) ks
  | [], bs, h => by
    have h : Paired (fun (p : List Key × V) (b : Addr) => H b = some (.tup (p.1.map kV))) [] bs := h
    cases h
    exact LV.nil
  | k :: ks, bs, h => by
    have h : Paired (fun (p : List Key × V) (b : Addr) => H b = some (.tup (p.1.map kV))) ((kk k, V.bl true) :: encD ks) bs := h
    cases h with
    | cons h1 h2 =>
      have h1 : H _ = some (.tup ((kk k).map kV)) := h1
      rw [kk_kV] at h1
      exact (LV.one (s := k) ⟨_, rfl, h1⟩).app (keys_lv h2)
section
variable {P : Program} {w : World} {K : PySem.W.Frag} {mg : Str → Option Value} {base : Heap}
abbrev sLF : Stmt := topS 53
abbrev nLF : List Str := ["_law_simplices_here", "_law_met", "_law_simplex_here", "_law_some", "_law_vertex", "_law_part", "_law_pair"]
def spLF : Sp := fun vs H Q _ => ∃ (t : Addr) (ss : List (List Nat)), vs = [.ref t] ∧ TS H t ss ∧ (∀ s ∈ ss, s ∈ U25) ∧ ∀ H' p ks fs, Same H H' → H p = none → LS H' p fs → Fcs ss ks → Ordd ks fs → Q (.ref p) H'
theorem scLF : FnScope nLF ["_law_simplices_here"] (defScope sLF) := ⟨rfl, rfl, rfl, by decide +kernel, rfl, by decide +kernel, by decide +kernel⟩
theorem ok_lf {f : Addr} {fd : FuncData} (T : Txt mg) (F : Fun K "_law_faces" "_law_faces" sLF f fd) : FnOk P w K mg base CX0 1 f fd ["_law_simplices_here"] spLF := by
  refine F.ok scLF (fun vs H Q E h => ?_) (fun cdv A outer s0 H vs Q E hr h => ?_)
  · obtain ⟨t, ss, rfl, _⟩ := h
    rfl
  obtain ⟨t, ss, rfl, ⟨ys, et, lv⟩, hs, q⟩ := h
  have hu := hu_of hr
  refine ⟨_, pss_cons (ps_set (i := 1) scLF.nd rfl (.inl rfl) pe_dnewT)
    (pss_cons (ps_for PassesOwn.never rfl (pi_tup (pv 0)) (pg_name (i := 2) scLF.nd rfl (.inl rfl))
      (pss_cons (ps_set (i := 3) scLF.nd rfl (.inl rfl) (pe_lst (pa_cons (pe_tup pa_nil) pa_nil)))
      (pss_cons (ps_for PassesOwn.never rfl (pi_tup (pv 2)) (pg_name (i := 4) scLF.nd rfl (.inr rfl))
        (pss_one (ps_set (i := 3) scLF.nd rfl (.inl rfl) (pe_op op_cat (pv 3)
          (pe_lc (own := [("_law_part", 5)]) (g := gName 5) (tt := tYes) (te := tOp (rCatA K) (tVar 5) (tTup (tCons (tVar 4) tNil))) rfl scLF.nd (pi_list (pv 3)) (blkOk_by (N := nLF) (sc := defScope sLF) (by decide +kernel)) (fun _ _ _ _ _ => pg_name (i := 5) scLF.nd rfl (.inl rfl)) (fun _ _ _ _ _ => pts_nil)
            (fun _ _ _ _ _ => pe_op op_catA (pv 5) (pe_tup (pa_cons (pv 4) pa_nil))))))))
      (pss_one (ps_for PassesOwn.never rfl (pi_list (pe_slice sl_list (pv 3) (po_some pe_int) po_none)) (pg_name (i := 5) scLF.nd rfl (.inl rfl)) (pss_one (ps_dput hu (pv 1) (pv 5) pe_bl rfl)))))))
    (pss_one (ps_ret (pe_lc (own := [("_law_pair", 6)]) (g := gName 6) (tt := tYes) (te := tOp (rIxT K) (tVar 6) (tC (.int 1))) rfl scLF.nd
      (pi_list (pe_callB (cr_srt hr.units) (by rfl) T.sorted (by decide +kernel) (pa_cons
        (pe_lc (own := [("_law_part", 5)]) (g := gName 5) (tt := tYes) (te := tTup (tCons (tLen K 5) (tCons (tVar 5) tNil))) rfl scLF.nd (pi_list (pe_callTy (call_list_dT rfl) (by rfl) T.list (by decide +kernel) (pa_cons (pv 1) pa_nil))) (blkOk_by (N := nLF) (sc := defScope sLF) (by decide +kernel)) (fun _ _ _ _ _ => pg_name (i := 5) scLF.nd rfl (.inl rfl)) (fun _ _ _ _ _ => pts_nil)
          (fun _ _ _ _ _ => pe_tup (pa_cons (pe_callB call_len_seq (by rfl) T.len PySem.boot_len (pa_cons (pv 5) pa_nil)) (pa_cons (pv 5) pa_nil)))) pa_nil)))
      (blkOk_by (N := nLF) (sc := defScope sLF) (by decide +kernel)) (fun _ _ _ _ _ => pg_name (i := 6) scLF.nd rfl (.inl rfl)) (fun _ _ _ _ _ => pts_nil) (fun _ _ _ _ _ => pe_ix ix_tup (pv 6) pe_int (fun _ _ => rfl)))))), ?_⟩
  refine fun d nd => ?_
  have sm0 : Same H (upd H d (.dT [])) := same_upd nd
  refine ⟨_, rfl, t, rfl, ⟨_, SqT.of (sm0 _ _ et)⟩, for_tup (xs := ys) (fun i σ H' => ∃ (y2 y3 y4 y5 : Option V) (ks : List (List Nat)), σ = [some (.ref t), some (.ref d), y2, y3, y4, y5, none] ∧ Same H H' ∧ H' d = some (.dT (encD ks)) ∧ Fcs (ss.take i) ks) ?_ (fun i σ H' _ p => ?_) (fun i x σ H' hx p => ?_) fun σ H' p => ?_⟩
  · exact ⟨none, none, none, none, [], rfl, sm0, upd_same, List.nodup_nil, fun k => by simp⟩
  · obtain ⟨_, _, _, _, _, rfl, sm, _⟩ := p
    exact SqT.of (sm _ _ et)
  · obtain ⟨y2, y3, y4, y5, ks, rfl, sm, ed, fc⟩ := p
    obtain ⟨s, es, a, rfl, ha⟩ := lv.at' i x hx
    have hsU : s ∈ U25 := hs s (List.mem_of_getElem? es)
    have hs3 := U25_len s hsU
    have hsub : ∀ z ∈ ss.take i, z ∈ U25 := fun z hz => hs z (List.mem_of_mem_take hz)
    have tk1 : ss.take (i + 1) = ss.take i ++ [s] := by rw [List.take_add_one, es]; rfl
    -- some = [()]
    refine ⟨by show 0 ≤ sizeLine; decide, fun e0 ne0 => ⟨by show 1 ≤ sizeLine; decide, fun l0 nl0 => ?_⟩⟩
    have s2 : Same H' (upd (upd H' e0 (.tup [])) l0 (.lst [.ref e0])) := (same_upd ne0).trans (same_upd nl0)
    have nle : l0 ≠ e0 := fun z => by rw [z, upd_same] at nl0; cases nl0
    have lv0 : LV (upd (upd H' e0 (.tup [])) l0 (.lst [.ref e0])) [.ref e0] (subs (s.take 0)) := LV.one ⟨e0, rfl, by rw [upd_ne (Ne.symm nle), upd_same]; rfl⟩
    have el0 : (upd (upd H' e0 (.tup [])) l0 (.lst [.ref e0])) l0 = some (.lst [.ref e0]) := upd_same
    generalize upd (upd H' e0 (.tup [])) l0 (.lst [.ref e0]) = H1 at s2 lv0 el0
    have ha1 := s2 _ _ (sm _ _ ha)
    refine ⟨_, rfl, a, rfl, ⟨_, SqT.of ha1⟩, for_tup (xs := iv s) (fun j σ H2 => ∃ (y4 : Option V) (l : Addr) (zs : List V), σ = [some (.ref t), some (.ref d), some (.ref a), some (.ref l), y4, y5, none] ∧ Same H1 H2 ∧ H2 l = some (.lst zs) ∧ LV H2 zs (subs (s.take j)))
      ⟨y4, l0, _, rfl, Same.refl _, el0, lv0⟩ (fun j σ H2 _ p => by obtain ⟨_, _, _, _, s3, _⟩ := p; exact SqT.of (s3 _ _ ha1)) (fun j x σ H2 hx p => ?_) fun σ H2 p => ?_⟩
    · obtain ⟨y4, l, zs, rfl, s3, el, lz⟩ := p
      obtain ⟨n, hn, rfl⟩ := iv_at hx
      have hjl : j < s.length := (List.getElem?_eq_some_iff.mp hn).1
      have zl : zs.length ≤ 8 := by
        rw [lz.len, subs_len, List.length_take]
        exact Nat.pow_le_pow_right (n := 2) (by decide) (by omega : min j s.length ≤ 3)
      refine ⟨_, rfl, _, rfl, l, rfl, ⟨_, SqL.of el⟩, fun D hD => lc_map (walk_list (xs := zs)) (fun k y H => ∃ s', (subs (s.take j))[k]? = some s' ∧ IsS H y (s' ++ [n])) (fun k y H1 H2 kk h => let ⟨s', e, h⟩ := h; ⟨s', e, h.tk kk⟩) (fun H3 sm3 => SqL.of (sm3 _ _ el)) (small1000 (by omega)) hD (fun k x H3 H4 R hk sm3 _ hy r => ?_) fun H3 us sm3 eD hul hu3 => ?_⟩
      · obtain ⟨rfl, hx1⟩ := hy
        obtain ⟨s', es', q', rfl, hq'⟩ := lz.at' k x hx1
        have hs8 : s'.length ≤ 3 := by
          have := (mem_subs.mp (List.mem_of_getElem? es')).length_le
          rw [List.length_take] at this
          omega
        have hq4 := sm3 _ _ hq'
        refine ⟨rfl, _, rfl, _, rfl, by show 1 ≤ sizeLine; decide, fun v nv => ?_⟩
        have s5 := same_upd nv (o := .tup [.int (n : Nat)])
        have hq5 := s5 _ _ hq4
        refine ⟨q', v, iv s', [.int (n : Nat)], rfl, rfl, SqT.of hq5, SqT.of upd_same, ?_, fun z => ?_, fun z1 z2 => (by cases z2), fun z1 z2 c nc => ?_⟩
        · rw [iv_len]
          show s'.length + 1 ≤ sizeLine
          exact small_line (by omega)
        · refine r _ _ s5 ⟨s', es', v, rfl, ?_⟩
          rw [upd_same]
          unfold iv at z ⊢
          rw [List.map_append, z]
          rfl
        · refine r _ _ (s5.trans (same_upd nc)) ⟨s', es', c, rfl, ?_⟩
          rw [upd_same]
          unfold iv
          rw [List.map_append]
          rfl
      · have lu : LV H3 us ((subs (s.take j)).map (· ++ [n])) := by
          refine LV.of hul (by rw [List.length_map, lz.len]) fun k y e => ?_
          obtain ⟨s', es', is⟩ := hu3 k y e
          exact ⟨s' ++ [n], by rw [List.getElem?_map, es']; rfl, is⟩
        have e1 : subs (s.take (j + 1)) = subs (s.take j) ++ (subs (s.take j)).map (· ++ [n]) := by
          rw [List.take_add_one, hn]
          exact subs_snoc _ _
        refine ⟨l, D, zs, us, rfl, rfl, sm3 _ _ el, eD, small_line (by omega), fun u nu => ?_⟩
        refine ⟨_, u, zs ++ us, rfl, s3.trans (sm3.trans (same_upd nu)), upd_same, ?_⟩
        rw [e1]
        exact ((lz.tk (same_tk sm3)).app lu).tk (tk_new nu)
    · obtain ⟨y4, l, zs, rfl, s3, el, lz⟩ := p
      rw [iv_len, List.take_length] at lz
      have zl : zs.length = 2 ^ s.length := by rw [lz.len, subs_len]
      have z1 : 1 ≤ zs.length := by rw [zl]; exact Nat.one_le_two_pow
      have sB := s2.trans s3
      refine ⟨_, rfl, 1, rfl, l, zs, rfl, SqL.of el, fun u nu => ?_⟩
      have ec : cutV zs (some 1) none = zs.drop 1 := cut_from 1 _ z1
      rw [ec]
      have s4 : Same H2 (upd H2 u (.lst (zs.drop 1))) := same_upd nu
      have eu : (upd H2 u (.lst (zs.drop 1))) u = some (.lst (zs.drop 1)) := upd_same
      have lz4 : LV (upd H2 u (.lst (zs.drop 1))) (zs.drop 1) (pts s) := (lz.drop 1).tk (same_tk s4)
      have sC := sB.trans s4
      have ed4 := sC _ _ ed
      have nud : u ≠ d := fun z => by rw [z] at nu; rw [(sB _ _ ed)] at nu; cases nu
      generalize upd H2 u (.lst (zs.drop 1)) = H4 at s4 eu lz4 sC ed4
      generalize zs.drop 1 = ws at eu lz4
      refine ⟨u, rfl, ⟨_, SqL.of eu⟩, for_list (xs := ws) (fun j σ H5 => ∃ (y5 : Option V) (ks2 : List (List Nat)), σ = [some (.ref t), some (.ref d), some (.ref a), some (.ref l), y4, y5, none] ∧ Same H H5 ∧ H5 u = some (.lst ws) ∧ LV H5 ws (pts s) ∧ H5 d = some (.dT (encD ks2)) ∧ ks2.Nodup ∧ ∀ k, k ∈ ks2 ↔ k ∈ ks ∨ k ∈ (pts s).take j) ?_ (fun j σ H5 _ p2 => ?_) (fun j x σ H5 hx2 p2 => ?_) fun σ H5 p2 => ?_⟩
      · exact ⟨y5, ks, rfl, sm.trans sC, eu, lz4, ed4, fc.nod, fun k => by simp⟩
      · obtain ⟨_, _, rfl, _, e5, _⟩ := p2
        exact SqL.of e5
      · obtain ⟨y5, ks2, rfl, sm2, ep2, lz2, ed2, nd2, m2⟩ := p2
        obtain ⟨k, ek, b, rfl, hb⟩ := lz2.at' j x hx2
        have hb' : H5 b = some (.tup ((kk k).map kV)) := by rw [kk_kV]; exact hb
        have kU : ∀ z ∈ ks2, z ∈ U25 := fun z hz => by
          rcases (m2 z).mp hz with h | h
          · exact fc.in25 hsub z h
          · exact U25_pts s hsU z (List.mem_of_mem_take h)
        have hlen := U25_many nd2 kU
        refine ⟨_, rfl, _, rfl, d, _, rfl, DPut.t ed2 hb' (by rw [encD_len]; exact small1000 (by omega)), ?_⟩
        rw [putK_encD]
        refine ⟨_, insS ks2 k, rfl, fun c o e => ?_, ?_, lz2.tk (tk_upd ed2 fun xs z => by cases z), upd_same, nodup_insS nd2, fun z => ?_⟩
        · rw [upd_ne (ne_of_none e nd)]
          exact sm2 c o e
        · rw [upd_ne nud]
          exact ep2
        · rw [mem_insS, m2, List.take_add_one, ek]
          simp [or_assoc]
      · obtain ⟨y5, ks2, rfl, sm2, ep2, lz2, ed2, nd2, m2⟩ := p2
        rw [lz2.len, List.take_length] at m2
        refine ⟨_, _, _, _, ks2, rfl, sm2, ed2, nd2, fun k => ?_⟩
        rw [m2, fc.mem, tk1]
        constructor
        · rintro (⟨z, hz, hk⟩ | hk)
          · exact ⟨z, List.mem_append_left _ hz, hk⟩
          · exact ⟨s, by simp, hk⟩
        · rintro ⟨z, hz, hk⟩
          rcases List.mem_append.mp hz with hz | hz
          · exact .inl ⟨z, hz, hk⟩
          · have : z = s := by simpa using hz
            subst this
            exact .inr hk
  · obtain ⟨y2, y3, y4, y5, ks, rfl, sm, ed, fc⟩ := p
    have e : ys.length = ss.length := lv.len
    rw [e, List.take_length] at fc
    have hl := U25_many fc.nod (fc.in25 hs)
    refine ⟨_, rfl, d, _, rfl, .inl ed, fun l bs nl hk => ⟨l, rfl, ⟨_, SqL.of upd_same⟩, fun D hD => ?_⟩⟩
    have lk := (keys_lv hk).tk (tk_new nl (o := .lst (bs.map V.ref)))
    have s1 : Same H' (upd H' l (.lst (bs.map V.ref))) := same_upd nl
    have el : (upd H' l (.lst (bs.map V.ref))) l = some (.lst (bs.map V.ref)) := upd_same
    generalize upd H' l (.lst (bs.map V.ref)) = H1 at lk s1 el hD
    have lkl := lk.len
    refine lc_map (walk_list (xs := bs.map V.ref)) (fun j y H => ∃ s, ks[j]? = some s ∧ IsP H y s) (fun j y H1 H2 k h => let ⟨s, e, h⟩ := h; ⟨s, e, h.tk k⟩) (fun H2 sm2 => SqL.of (sm2 _ _ el)) (small1000 (by omega)) hD (fun j x H2 H3 R hj sm2 _ hy r => ?_) fun H2 zs sm2 eD hzl hz => ?_
    · obtain ⟨rfl, hx⟩ := hy
      obtain ⟨s, es, p, rfl, hp⟩ := lk.at' j x hx
      have hp2 := sm2 _ _ hp
      refine ⟨rfl, _, rfl, p, _, rfl, .inr (SqT.of hp2), _, rfl, by show 2 ≤ sizeLine; decide, fun u nu => r _ _ (same_upd nu) ⟨s, es, u, p, rfl, ?_, ?_⟩⟩
      · rw [upd_same, iv_len]
      · exact (same_upd nu) _ _ hp2
    · obtain ⟨bs2, ⟨b1, b2, b3, b4, b5, b6⟩, fs, hperm, hsrt, hzl2, hz2⟩ := srt_use (K := K) (as := ks) encS (IsP H2) eD (by omega) hz (fun y a h => h.dp) encS_alike (fun a _ => ⟨_, _, rfl⟩) (fun a _ => encS_depth a) (small_line (by omega))
      refine ⟨D, bs2, rfl, b1, b2, b3, b4, b5, b6, fun p np => ?_⟩
      generalize hzs : srtd bs2 = us at hzl2 hz2
      have hzs2 : (bs2.mergeSort (PySem.W.dataLe false Prod.snd)).map Prod.fst = us := hzs
      rw [hzs2]
      have smB : Same H2 (upd H2 p (.lst us)) := same_upd np
      have lfs : fs.length ≤ 1000 := by rw [hperm.length_eq]; omega
      refine ⟨p, rfl, ⟨_, SqL.of upd_same⟩, fun D2 hD2 => lc_map (walk_list (xs := us)) (fun j y H => ∃ s, fs[j]? = some s ∧ IsS H y s) (fun j y H1 H2 k h => let ⟨s, e, h⟩ := h; ⟨s, e, h.tk k⟩) (fun H3 sm3 => SqL.of (sm3 _ _ upd_same)) (small1000 (by omega)) hD2
        (fun j x H3 H4 R hj sm3 _ hy r => ?_) fun H3 vs sm3 eD3 hul hu => ?_⟩
      · obtain ⟨rfl, hx⟩ := hy
        obtain ⟨s, es, q1, q2, rfl, h1, h2⟩ := hz2 j x hx
        have t3 : Tk H2 H4 := (same_tk smB).trans (same_tk sm3)
        exact ⟨rfl, _, rfl, q1, _, 1, .ref q2, rfl, rfl, SqT.of (t3 _ _ h1), atI_nat (j := 1) rfl, r _ _ (Same.refl _) ⟨s, es, q2, rfl, t3 _ _ h2⟩⟩
      · have smC : Same H H3 := sm.trans (s1.trans (sm2.trans (smB.trans sm3)))
        have hD2n : H D2 = none := (sm.trans (s1.trans (sm2.trans smB))).free hD2
        exact q H3 D2 ks fs smC hD2n ⟨vs, eD3, LV.of hul (by omega) hu⟩ fc ⟨hperm, hsrt⟩
end
end G98
namespace G98
open PySem PySem.Spec PyProof.Rows L2
/-- how times stand for the faces seen so far -/
structure TmI (L : List (List Nat)) (b : Nat) (h : List Nat → Nat) : Prop where
  mono : ∀ s ∈ L, 1 < s.length → ∀ p ∈ brd s, h p ≤ h s
  top : ∀ s ∈ L, h s ≤ b + 5 * (s.length - 1)
theorem TmI.nil (b : Nat) (h : List Nat → Nat) : TmI [] b h := ⟨fun s hs => (by cases hs), fun s hs => (by cases hs)⟩
def uph (h : List Nat → Nat) (s : List Nat) (v : Nat) : List Nat → Nat := fun t => if t = s then v else h t
theorem uph_same (h : List Nat → Nat) (s : List Nat) (v : Nat) : uph h s v s = v := if_pos rfl
theorem uph_ne {h : List Nat → Nat} {s t : List Nat} {v : Nat} (e : t ≠ s) : uph h s v t = h t := if_neg e
theorem clk_congr {h h' : List Nat → Nat} {L : List (List Nat)} (e : ∀ s ∈ L, h s = h' s) : clk h L = clk h' L := by
  unfold clk
  congr 1
  exact List.map_congr_left fun s hs => by rw [e s hs]
/-- the parts of what was seen were seen -/
theorem parts_seen {ks fs : List (List Nat)} (hk : Cplx ks) (o : Ordd ks fs) {i : Nat} {s t : List Nat} (hs : fs[i]? = some s) (ht : t ∈ fs.take i) (h1 : 1 < t.length) {p : List Nat} (hp : p ∈ brd t) : p ∈ fs.take i := by
  have hkf := hk.perm o.perm
  obtain ⟨j, hj⟩ := List.getElem?_of_mem ht
  have lj : j < i := by
    have := (List.getElem?_eq_some_iff.mp hj).1
    rw [List.length_take] at this
    omega
  rw [List.getElem?_take, if_pos lj] at hj
  have htf := List.mem_of_getElem? hj
  have := o.before hj (hkf.down t htf h1 p hp) (by have := U25_brdlen t (hkf.sub t htf) p hp; omega)
  exact (List.take_subset_take_left fs (by omega : j ≤ i)) this
theorem TmI.put {ks fs : List (List Nat)} (hk : Cplx ks) (o : Ordd ks fs) {i b v : Nat} {s : List Nat} (hs : fs[i]? = some s) {h : List Nat → Nat} (t : TmI (fs.take i) b h) (hm : 1 < s.length → ∀ p ∈ brd s, h p ≤ v) (hb : v ≤ b + 5 * (s.length - 1)) : TmI (fs.take (i + 1)) b (uph h s v) := by
  have hkf := hk.perm o.perm
  have hn : s ∉ fs.take i := take_new hkf.nod hs
  have e1 : fs.take (i + 1) = fs.take i ++ [s] := by rw [List.take_add_one, hs]; rfl
  have ns : ∀ u ∈ fs.take i, u ≠ s := fun u hu z => hn (z ▸ hu)
  have pn : ∀ p ∈ brd s, p ≠ s := fun p hp z => by
    have := U25_brdlen s (hkf.sub s (List.mem_of_getElem? hs)) p hp
    rw [z] at this
    omega
  refine ⟨fun u hu h1 p hp => ?_, fun u hu => ?_⟩
  · rw [e1] at hu
    rcases List.mem_append.mp hu with hu | hu
    · rw [uph_ne (ns u hu), uph_ne (ns p (parts_seen hk o hs hu h1 hp))]
      exact t.mono u hu h1 p hp
    · have : u = s := by simpa using hu
      subst this
      rw [uph_same, uph_ne (pn p hp)]
      exact hm h1 p hp
  · rw [e1] at hu
    rcases List.mem_append.mp hu with hu | hu
    · rw [uph_ne (ns u hu)]
      exact t.top u hu
    · have : u = s := by simpa using hu
      subst this
      rw [uph_same]
      exact hb
section
variable {P : Program} {w : World} {K : PySem.W.Frag} {mg : Str → Option Value} {base : Heap}
abbrev sLT : Stmt := topS 54
abbrev nLT : List Str := ["_law_row", "_law_faces_here", "_law_most", "_law_found", "_law_face", "_law_least", "_law_more", "_law_at"]
def spLT (K : PySem.W.Frag) : Sp := fun vs H Q _ => ∃ (rw sc t : Addr) (ns : List Int) (m : Nat) (ks fs : List (List Nat)), vs = [.ref rw, .ref t, .int (m : Nat)] ∧ RowAt K sc ns H rw ∧ LS H t fs ∧ t ≠ rw ∧ Cplx ks ∧ Ordd ks fs ∧ m ≤ 40 ∧
  ∀ H' p h, SameBut rw H H' → RowAt K sc ns H' rw → H' p = some (.tup (tv h fs)) → TmI fs 40 h → Q (.ref p) H'
theorem scLT : FnScope nLT ["_law_row", "_law_faces_here", "_law_most"] (defScope sLT) := ⟨rfl, rfl, rfl, by decide +kernel, rfl, by decide +kernel, by decide +kernel⟩
theorem row_of {K : PySem.W.Frag} {sc rw z : Addr} {ns : List Int} {H H' : Hp} {o : HO} (ra : RowAt K sc ns H rw) (sb : SameBut rw H H') (r' : RowAt K sc ns H' rw) (hz : z ≠ rw) (hn : H z = none) : RowAt K sc ns (upd H' z o) rw := by
  obtain ⟨h1, c, s, r, er, hh⟩ := r'
  obtain ⟨l0, el0⟩ := ra.lst
  exact ⟨seq_but ra.1 el0 fun b' o' hb e => by rw [upd_ne (ne_of_none e hn)]; exact sb _ _ hb e, c, s, r, by rw [upd_ne (Ne.symm hz)]; exact er, hh⟩
theorem ok_lt {f : Addr} {fd : FuncData} (T : Txt mg) (DT : Df P w K mg base 1 "_law_taken" ["_law_row", "_law_many"] (spTak K)) (DP : Df P w K mg base 2 "_law_pick" ["_law_row", "_law_things"] (spPick K)) (F : Fun K "_law_times" "_law_times" sLT f fd) : FnOk P w K mg base CX0 3 f fd ["_law_row", "_law_faces_here", "_law_most"] (spLT K) := by
  refine F.ok scLT (fun vs H Q E h => ?_) (fun cdv A outer s0 H vs Q E hr h => ?_)
  · obtain ⟨rw, sc, t, ns, m, ks, fs, rfl, _⟩ := h
    rfl
  obtain ⟨rw, sc, t, ns, m, ks, fs, rfl, ra, ⟨ys, et, lv⟩, ntr, hk, ho, hm, q⟩ := h
  have hu := hu_of hr
  have hkf := hk.perm ho.perm
  have h25 := hkf.len
  have hyl := lv.len
  refine ⟨_, pss_cons (ps_set (i := 3) scLT.nd rfl (.inr rfl) pe_dnewT)
    (pss_cons (ps_for PassesOwn.never rfl (pi_list (pv 1)) (pg_name (i := 4) scLT.nd rfl (.inr rfl))
      (pss_cons (ps_set (i := 5) scLT.nd rfl (.inl rfl) (pe_callB (cr_max rfl) (by rfl) T.max (by decide +kernel) (pa_cons (pe_op op_cat
        (pe_lc (own := [("_law_at", 7)]) (g := gName 7) (tt := tTest (tOp (rI0 fun i j => .bl (decide (j < i))) (tLen K 4) (tC (.int 1)))) (te := tDGet (tVar 3) (tCutG K (tVar 4) (tVar 7))) rfl scLT.nd (pi_range1 (by rfl) T.range (pa_cons (pe_callB call_len_seq (by rfl) T.len PySem.boot_len (pa_cons (pv 4) pa_nil)) pa_nil)) (blkOk_by (N := nLT) (sc := defScope sLT) (by decide +kernel)) (fun _ _ _ _ _ => pg_name (i := 7) scLT.nd rfl (.inl rfl))
          (fun _ _ _ _ _ => pts_one (pt_cmpR op_gt (pe_callB call_len_seq (by rfl) T.len PySem.boot_len (pa_cons (pv 4) pa_nil)) pe_int (nomark _)))
          (fun _ _ _ _ _ => pe_dget hu (pv 3) (pe_op op_catA (pe_slice sl_tupA (pv 4) po_none (po_some (pv 7))) (pe_slice sl_tupA (pv 4) (po_some (pe_op op_add (pv 7) pe_int)) po_none)) (by first | exact (fun _ _ => rfl) | (intros; rfl) | trivial)))
        (pe_lst (pa_cons pe_int pa_nil))) pa_nil)))
      (pss_cons (ps_set (i := 6) scLT.nd rfl (.inl rfl) (pe_ifExp (pt_cmpR op_gt (pe_callB call_len_seq (by rfl) T.len PySem.boot_len (pa_cons (pv 4) pa_nil)) pe_int (nomark _))
        (pe_f DP hr (pa_cons (pv 0) (pa_cons (pe_lst (pa_cons pe_int (pa_cons pe_int (pa_cons pe_int (pa_cons (pe_f DT hr (pa_cons (pv 0) (pa_cons pe_int pa_nil))) pa_nil))))) pa_nil)))
        (pe_f DT hr (pa_cons (pv 0) (pa_cons (pe_op op_add (pv 2) pe_int) pa_nil)))))
      (pss_one (ps_dput hu (pv 3) (pv 4) (pe_op op_add (pv 5) (pv 6)) rfl)))))
    (pss_one (ps_ret (pe_callTy call_tuple_of (by rfl) T.tuple (by decide +kernel) (pa_cons
      (pe_lc (own := [("_law_face", 4)]) (g := gName 4) (tt := tYes) (te := tDGet (tVar 3) (tVar 4)) rfl scLT.nd (pi_list (pv 1)) (blkOk_by (N := nLT) (sc := defScope sLT) (by decide +kernel)) (fun _ _ _ _ _ => pg_name (i := 4) scLT.nd rfl (.inl rfl)) (fun _ _ _ _ _ => pts_nil)
        (fun _ _ _ _ _ => pe_dget hu (pv 3) (pv 4) (by first | exact (fun _ _ => rfl) | (intros; rfl) | trivial))) pa_nil))))), ?_⟩
  refine fun d nd => ?_
  obtain ⟨l0, el0⟩ := id ra.lst
  have ndr : d ≠ rw := fun z => by rw [z, el0] at nd; cases nd
  have fmem : ∀ {s}, s ∈ fs → s ∈ U25 := fun h => hkf.sub _ h
  have et0 := (same_upd nd (o := .dT [])) _ _ et
  have ra0 := ra.same (same_upd nd (o := .dT []))
  refine ⟨_, rfl, t, rfl, ⟨_, SqL.of et0⟩, for_list (xs := ys) (fun i σ H' => ∃ (y4 y5 y6 : Option V) (h : List Nat → Nat), σ = [some (.ref rw), some (.ref t), some (.int (m : Nat)), some (.ref d), y4, y5, y6, none] ∧ SameBut rw H H' ∧ RowAt K sc ns H' rw ∧ H' d = some (.dT (clk h (fs.take i))) ∧ TmI (fs.take i) 40 h)
    ⟨none, none, none, fun _ => 0, rfl, SameBut.of (same_upd nd), ra0, upd_same, TmI.nil _ _⟩ (fun i σ H' _ p => by obtain ⟨_, _, _, _, _, sb, _⟩ := p; exact SqL.of (sb _ _ ntr et)) (fun i x σ H1 hx p => ?_) fun σ H1 p => ?_⟩
  · obtain ⟨y4, y5, y6, h, rfl, sb, ra1, ed, ti⟩ := p
    obtain ⟨s, es, a, rfl, ha⟩ := lv.at' i x hx
    have hsf := List.mem_of_getElem? es
    have hs3 := U25_len s (fmem hsf)
    have hil := (List.getElem?_eq_some_iff.mp es).1
    have tkH := sb.tk el0
    have ha1 := tkH _ _ ha
    obtain ⟨l1, el1⟩ := ra1.lst
    have dlen : (((1 : Int) < (((iv s).length : Nat) : Int)) ↔ 1 < s.length) := by rw [iv_len]; omega
    have ed1 : decide ((1 : Int) < (((iv s).length : Nat) : Int)) = decide (1 < s.length) := decide_eq_decide.mpr dlen
    have seen : 1 < s.length → ∀ p ∈ brd s, p ∈ fs.take i := fun h1 p hp => ho.before es (hkf.down s hsf h1 p hp) (by have := U25_brdlen s (fmem hsf) p hp; omega)
    refine ⟨_, rfl, a, _, rfl, .inr (SqT.of ha1), _, rfl, by omega, by rw [iv_len]; omega, fun D hD => ?_⟩
    rw [iv_len]
    refine lc_flt (walk_range (lo := 0) (n := s.length)) (fun _ => decide (1 < s.length)) (fun j y H => y = .int (h (s.eraseIdx j) : Nat)) (fun j y H H' _ e => e) (fun _ _ => True.intro) (small1000 (by omega)) hD (fun j z H2 H3 R N hj sm _ hy r nr => ?_) fun H2 us sm eD hul hus => ?_
    · obtain ⟨rfl, rfl⟩ := hy
      refine ⟨rfl, _, rfl, a, _, rfl, .inr (SqT.of (sm _ _ ha1)), _, _, rfl, rfl, _, rfl, ?_⟩
      rw [ed1]
      by_cases h1 : 1 < s.length
      · rw [decide_eq_true h1]
        refine iteT ⟨_, rfl, ?_⟩
        refine cut_use (gives_var rfl) (gives_var (by show some (some (V.int ((0 : Int) + (j : Int)))) = _; rw [Int.zero_add])) (sm _ _ ha1) hj (by omega) fun c H4 s4 e4 => ?_
        refine ⟨d, .int (h (s.eraseIdx j) : Nat), rfl, ?_, r (decide_eq_true h1) _ _ s4 rfl⟩
        rw [← valV_clk (h := h) (seen h1 _ (mem_brd.mpr ⟨j, hj, rfl⟩))]
        exact DGet.t (s4 _ _ (sm _ _ ed)) (by rw [kk_kV]; exact e4)
      · rw [decide_eq_false h1]
        exact iteF (nr (decide_eq_false h1) _ (Same.refl _))
    · generalize hks : (List.range s.length).filter (fun _ => decide (1 < s.length)) = is at hul hus
      have isl : is.length ≤ 3 := by
        rw [← hks]
        have := List.length_filter_le (fun _ => decide (1 < s.length)) (List.range s.length)
        rw [List.length_range] at this
        omega
      have ism : ∀ j ∈ is, 1 < s.length ∧ j < s.length := fun j hj => by
        rw [← hks] at hj
        obtain ⟨g1, g2⟩ := List.mem_filter.mp hj
        exact ⟨of_decide_eq_true g2, List.mem_range.mp g1⟩
      have isall : 1 < s.length → ∀ j, j < s.length → j ∈ is := fun h1 j hj => by
        rw [← hks]
        exact List.mem_filter.mpr ⟨List.mem_range.mpr hj, decide_eq_true h1⟩
      have eus : us = (is.map fun j => ((h (s.eraseIdx j) : Nat) : Int)).map V.int := by
        refine List.ext_getElem? fun j => ?_
        rw [List.map_map, List.getElem?_map]
        by_cases hj : j < us.length
        · have e1 : us[j]? = some us[j] := List.getElem?_eq_getElem hj
          obtain ⟨k, ek, ey⟩ := hus j _ e1
          rw [e1, ek, ey]
          rfl
        · rw [List.getElem?_eq_none (by omega), List.getElem?_eq_none (by omega)]
          rfl
      refine ⟨by show 1 ≤ sizeLine; decide, fun l nl => ?_⟩
      have s5 := same_upd nl (o := .lst [V.int 0])
      refine ⟨D, l, us, [.int 0], rfl, rfl, s5 _ _ eD, upd_same, small_line (by rw [hul]; show is.length + 1 ≤ _; omega), fun p np => ?_⟩
      have s6 : Same H1 (upd (upd H2 l (.lst [V.int 0])) p (.lst (us ++ [.int 0]))) := sm.trans (s5.trans (same_upd np))
      have ep : (upd (upd H2 l (.lst [V.int 0])) p (.lst (us ++ [.int 0]))) p = some (.lst (((is.map fun j => ((h (s.eraseIdx j) : Nat) : Int)) ++ [0]).map V.int)) := by
        rw [upd_same, eus, List.map_append]
        rfl
      generalize upd (upd H2 l (.lst [V.int 0])) p (.lst (us ++ [.int 0])) = H3 at s6 ep
      refine ⟨p, _, rfl, SqL.of ep, by simp, fun mx hmx hle => ?_⟩
      have ra3 := ra1.same s6
      have sb3 : SameBut rw H H3 := sb.trans (SameBut.of s6)
      have ed3 := s6 _ _ ed
      have ha3 := s6 _ _ ha1
      obtain ⟨M, rfl, hM⟩ : ∃ M : Nat, mx = (M : Int) ∧ (1 < s.length → M ≤ 40 + 5 * (s.length - 1 - 1)) ∧ (¬ 1 < s.length → M = 0) := by
        rcases List.mem_append.mp hmx with hz | hz
        · obtain ⟨j, hj, rfl⟩ := List.mem_map.mp hz
          obtain ⟨g1, g2⟩ := ism j hj
          have hb : s.eraseIdx j ∈ brd s := mem_brd.mpr ⟨j, g2, rfl⟩
          have := ti.top _ (seen g1 _ hb)
          have := U25_brdlen s (fmem hsf) _ hb
          exact ⟨_, rfl, fun _ => by omega, fun z => absurd g1 z⟩
        · have : mx = 0 := by simpa using hz
          exact ⟨0, by rw [this]; rfl, fun _ => Nat.zero_le _, fun _ => rfl⟩
      have hmono : 1 < s.length → ∀ q ∈ brd s, h q ≤ M := fun h1 q hq => by
        obtain ⟨j, hj, rfl⟩ := mem_brd.mp hq
        have := hle ((h (s.eraseIdx j) : Nat) : Int) (List.mem_append_left _ (List.mem_map.mpr ⟨j, isall h1 j hj, rfl⟩))
        omega
      -- found[face] = least + more
      have fin : ∀ (H5 : Hp) (v : Nat), SameBut rw H3 H5 → RowAt K sc ns H5 rw → M + v ≤ 40 + 5 * (s.length - 1) → DPut H5 d (.ref a) (.int ((M : Int) + (v : Int))) (upd H5 d (.dT (clk (uph h s (M + v)) (fs.take (i + 1))))) ∧
          (SameBut rw H (upd H5 d (.dT (clk (uph h s (M + v)) (fs.take (i + 1))))) ∧ RowAt K sc ns (upd H5 d (.dT (clk (uph h s (M + v)) (fs.take (i + 1))))) rw ∧ TmI (fs.take (i + 1)) 40 (uph h s (M + v))) := fun H5 v sb5 ra5 hb => by
        have sb6 := sb3.trans sb5
        have ha5 := sb6.tk el0 _ _ ha
        have ed5 := sb5 _ _ ndr ed3
        refine ⟨?_, fun b o hb e => by rw [upd_ne (ne_of_none e nd)]; exact sb6 _ _ hb e, row_of ra sb6 ra5 ndr nd, ti.put hk ho es (fun h1 q hq => Nat.le_trans (hmono h1 q hq) (Nat.le_add_right _ _)) hb⟩
        have hn : s ∉ fs.take i := take_new hkf.nod es
        have e1 : clk h (fs.take i) = clk (uph h s (M + v)) (fs.take i) := clk_congr fun u hu => (uph_ne (fun z : u = s => hn (z ▸ hu))).symm
        have e2 := putK_clk (h := uph h s (M + v)) hn
        rw [uph_same] at e2
        have put := DPut.t (k := kk s) (v := .int ((M + v : Nat) : Int)) ed5 (by rw [kk_kV]; exact ha5) (by rw [clk_len, List.length_take]; exact small1000 (by omega))
        rw [e1, e2] at put
        rw [List.take_add_one, es]
        rw [Int.natCast_add] at put
        exact put
      refine ⟨_, rfl, a, _, rfl, .inr (SqT.of ha3), _, _, rfl, rfl, _, rfl, ?_⟩
      rw [ed1]
      refine ite2 (fun e => ?_) (fun e => ?_)
      · have h1 := of_decide_eq_true e
        refine ⟨_, rfl, _, rfl, rw, sc, ns, 6, rfl, by decide, by decide, ra3, fun H5 x sb5 ra5 hx => ⟨by show 4 ≤ sizeLine; decide, fun l2 nl2 => ?_⟩⟩
        have s7 := same_upd nl2 (o := .lst [V.int 0, .int 0, .int 1, .int (x : Nat)])
        refine ⟨rw, sc, l2, ns, [0, 0, 1, x], rfl, by show 0 < 4; decide, by show 4 ≤ 1000; decide, upd_same, ra5.same s7, fun H6 v sb6 ra6 hv => ?_⟩
        have hv5 : v ≤ 5 := by
          simp at hv
          omega
        obtain ⟨f1, f2, f3, f4⟩ := fin H6 v (sb5.trans ((SameBut.of s7).trans sb6)) ra6 (by have := hM.1 h1; omega)
        exact ⟨_, rfl, _, rfl, _, _, rfl, rfl, _, rfl, _, rfl, d, _, rfl, f1, _, _, _, _, rfl, f2, f3, upd_same, f4⟩
      · have h1 : ¬ 1 < s.length := fun z => e (decide_eq_true z)
        refine ⟨_, rfl, _, rfl, _, _, rfl, rfl, rw, sc, ns, m + 1, rfl, by omega, by omega, ra3, fun H5 x sb5 ra5 hx => ?_⟩
        obtain ⟨f1, f2, f3, f4⟩ := fin H5 x sb5 ra5 (by have := hM.2 h1; omega)
        exact ⟨_, rfl, _, rfl, _, _, rfl, rfl, _, rfl, _, rfl, d, _, rfl, f1, _, _, _, _, rfl, f2, f3, upd_same, f4⟩
  · obtain ⟨y4, y5, y6, h, rfl, sb, ra1, ed, ti⟩ := p
    rw [hyl, List.take_length] at ed ti
    have tkH := sb.tk el0
    refine ⟨_, rfl, t, rfl, ⟨_, SqL.of (sb _ _ ntr et)⟩, fun D hD => lc_map (walk_list (xs := ys)) (fun j y H => ∃ s, fs[j]? = some s ∧ y = .int (h s : Nat)) (fun j y H1 H2 _ e => e) (fun H2 sm => SqL.of (sm _ _ (sb _ _ ntr et))) (small1000 (by omega)) hD (fun j x H2 H3 R hj sm _ hy r => ?_) fun H2 us sm eD hul hus => ?_⟩
    · obtain ⟨rfl, hx⟩ := hy
      obtain ⟨s, es, a, rfl, ha⟩ := lv.at' j x hx
      refine ⟨rfl, _, rfl, _, rfl, d, .int (h s : Nat), rfl, ?_, r _ _ (Same.refl _) ⟨s, es, rfl⟩⟩
      rw [← valV_clk (h := h) (List.mem_of_getElem? es)]
      exact DGet.t (sm _ _ ed) (by rw [kk_kV]; exact sm _ _ (tkH _ _ ha))
    · have eus : us = tv h fs := by
        refine List.ext_getElem? fun j => ?_
        by_cases hj : j < us.length
        · have e1 : us[j]? = some us[j] := List.getElem?_eq_getElem hj
          obtain ⟨s, es, ey⟩ := hus j _ e1
          rw [e1, tv_at es, ey]
        · rw [List.getElem?_eq_none (by omega), List.getElem?_eq_none (by rw [tv_len]; omega)]
      refine ⟨D, us, rfl, .inl ⟨SqL.of eD, fun l nl => ?_⟩⟩
      have s2 : Same H1 (upd H2 l (.tup us)) := sm.trans (same_upd nl)
      exact q _ l h (sb.trans (SameBut.of s2)) (ra1.same s2) (by rw [upd_same, eus]) ti
end
end G98
namespace G98
theorem exd_brd {ks : List (List Nat)} (hk : Cplx ks) {t : List Nat} (ht : t ∈ ks) (h1 : 1 < t.length) : exd ks bdy (bdy t) = exd (brd t) bdy (bdy t) := by
  have p1 : (ks.filter (fun s => decide (s ∈ brd t)) ++ ks.filter (fun s => !decide (s ∈ brd t))).Perm ks := List.filter_append_perm _ _
  have e2 : exd (ks.filter fun s => !decide (s ∈ brd t)) bdy (bdy t) = cz := exd_none bdy fun a ha => by
    have := (List.mem_filter.mp ha).2
    unfold bdy
    simp at this
    simp [this]
  have p3 : (ks.filter fun s => decide (s ∈ brd t)).Perm (brd t) := by
    refine (List.perm_ext_iff_of_nodup (hk.nod.sublist List.filter_sublist) (U25_brdnod t (hk.sub t ht))).mpr fun a => ?_
    rw [List.mem_filter, decide_eq_true_eq]
    exact ⟨fun z => z.2, fun z => ⟨hk.down t ht h1 a z, z⟩⟩
  rw [← exd_perm p1, exd_append, e2, ca_zero, exd_perm p3]
theorem cplx_cpx {ks : List (List Nat)} (hk : Cplx ks) : Cpx ks List.length bdy := by
  refine ⟨hk.nod, fun t ht s hs => ?_, fun t ht => ?_⟩
  · unfold bdy at hs
    rw [Bool.and_eq_true, decide_eq_true_eq, decide_eq_true_eq] at hs
    exact ⟨hk.down t ht hs.1 s hs.2, U25_brdlen t (hk.sub t ht) s hs.2⟩
  · by_cases h1 : 1 < t.length
    · rw [exd_brd hk ht h1]
      funext s
      show _ = false
      by_cases hs : s ∈ U25
      · exact bdy_bb t (hk.sub t ht) s hs
      · refine Spn.vanish (R := (brd t).map bdy) (fun r hr => ?_) (exd_span bdy fun a ha _ => List.mem_map.mpr ⟨a, ha, rfl⟩)
        obtain ⟨a, ha, rfl⟩ := List.mem_map.mp hr
        have haU := hk.sub a (hk.down t ht h1 a ha)
        unfold bdy
        by_cases h2 : 1 < a.length
        · have : s ∉ brd a := fun z => hs (U25_pts a haU s (U25_brd a haU h2 s z))
          simp [this]
        · simp [h2]
    · have : bdy t = cz := by
        funext s
        unfold bdy cz
        simp [h1]
      rw [this]
      exact exd_zero bdy ks
/-- all is right with a row of bars -/
structure RowOk (row : List Bar) : Prop where
  len : row.length ≤ 12
  ok : ∀ p ∈ row, BarOk p
theorem fm_len {α β : Type} {f : α → Option β} {p : α → Bool} : ∀ {l : List α}, (∀ a ∈ l, p a = false → f a = none) → (l.filterMap f).length ≤ (l.filter p).length
  | [], _ => Nat.le_refl _
  | a :: l, h => by
    have ih := fm_len (l := l) fun b hb => h b (List.mem_cons_of_mem _ hb)
    cases q : p a with
    | true =>
      rw [List.filter_cons_of_pos q, List.filterMap_cons]
      cases f a with
      | none => simp only [List.length_cons]; omega
      | some b => simp only [List.length_cons]; omega
    | false =>
      rw [List.filter_cons_of_neg (by simp [q]), List.filterMap_cons, h a List.mem_cons_self q]
      exact ih
theorem row_ok {L : List (List Nat)} (hk : Cplx L) {h : List Nat → Nat} (hm : ∀ s ∈ L, 1 < s.length → ∀ p ∈ brd s, h p ≤ h s) (ht : ∀ s ∈ L, h s ≤ 1000) (hs : L.Pairwise fun x y => h x ≤ h y) {R : List Nat → Ch (List Nat)} (D : Red L List.length bdy R) {k : Nat} {row : List Bar}
    (hr : row.Perm ((BL L List.length R h k).filter nd)) : RowOk row := by
  refine ⟨?_, fun p hp => ?_⟩
  · rw [hr.length_eq]
    refine Nat.le_trans (List.length_filter_le _ _) ?_
    have h1 : (BL L List.length R h k).length ≤ (L.filter fun s => decide (s.length = k)).length := fm_len fun a _ ha => by
      have ha := of_decide_eq_false ha
      rw [if_neg ha]
    have h2 : (L.filter fun s => decide (s.length = k)).length ≤ (U25.filter fun s => decide (s.length = k)).length := nodup_in (hk.nod.sublist List.filter_sublist) fun x hx => by
      obtain ⟨g1, g2⟩ := List.mem_filter.mp hx
      exact List.mem_filter.mpr ⟨hk.sub x g1, g2⟩
    have h3 : (U25.filter fun s => decide (s.length = k)).length ≤ 10 := by
      by_cases hk3 : k < 4
      · have : ∀ k : Fin 4, (U25.filter fun s => decide (s.length = k.1)).length ≤ 10 := by decide +kernel
        exact this ⟨k, hk3⟩
      · have : U25.filter (fun s => decide (s.length = k)) = [] := List.filter_eq_nil_iff.mpr fun s hs => by
          have := U25_len s hs
          simp
          omega
        rw [this]
        exact Nat.zero_le _
    omega
  · have hp := hr.mem_iff.mp hp
    obtain ⟨hp1, hnd⟩ := List.mem_filter.mp hp
    obtain ⟨s, hsL, e⟩ := List.mem_filterMap.mp hp1
    by_cases hl : s.length = k
    · rw [if_pos hl] at e
      cases q : fil L R s with
      | none =>
        rw [q] at e
        by_cases z : (tp L.reverse (R s)).isSome = true
        · have e : (if (tp L.reverse (R s)).isSome = true then none else some (h s, none)) = some p := e
          rw [if_pos z] at e
          cases e
        · have e : (if (tp L.reverse (R s)).isSome = true then none else some (h s, none)) = some p := e
          rw [if_neg z] at e
          cases e
          exact ⟨ht s hsL, fun x hx => by cases hx⟩
      | some t =>
        rw [q] at e
        cases e
        obtain ⟨htL, htp⟩ := fil_some q
        refine ⟨ht s hsL, fun x hx => ?_⟩
        cases hx
        have hle : h s ≤ h t := by
          by_cases hlt : h t < h s
          · exfalso
            obtain ⟨A, B, hL⟩ := List.append_of_mem htL
            have v := Spn.vanish (a := s) (fun r hr => ?_) (D.upto hL)
            · rw [(tp_some htp).2] at v
              cases v
            · obtain ⟨u, hu, rfl⟩ := List.mem_map.mp hr
              have hu1 := (List.mem_filter.mp hu).1
              have huL : u ∈ L := by
                rw [hL]
                rcases List.mem_append.mp hu1 with g | g
                · exact List.mem_append_left _ g
                · have : u = t := by simpa using g
                  rw [this]
                  exact List.mem_append_right _ List.mem_cons_self
              have hut : h u ≤ h t := by
                rcases List.mem_append.mp hu1 with g | g
                · rw [hL] at hs
                  exact (List.pairwise_append.mp hs).2.2 u g t List.mem_cons_self
                · have : u = t := by simpa using g
                  rw [this]
                  exact Nat.le_refl _
              unfold bdy
              by_cases h2 : 1 < u.length
              · have : s ∉ brd u := fun z => by
                  have := hm u huL h2 s z
                  omega
                simp [this]
              · simp [h2]
          · omega
        have hne : h t ≠ h s := fun z => by
          unfold nd at hnd
          simp [z] at hnd
        exact ⟨by show h s < h t; omega, ht t htL⟩
    · rw [if_neg hl] at e
      cases e
theorem law_full {ks L1 L2 : List (List Nat)} {h1 h2 : List Nat → Nat} {R1 R2 : List Nat → Ch (List Nat)} {n k : Nat} {row1 row2 : List Bar} (hk : Cplx ks) (p1 : L1.Perm ks) (s1 : L1.Pairwise fun x y => h1 x ≤ h1 y) (d1 : Red L1 List.length bdy R1)
    (p2 : L2.Perm ks) (s2 : L2.Pairwise fun x y => h2 x ≤ h2 y) (d2 : Red L2 List.length bdy R2) (hh : ∀ s ∈ ks, h1 s ≤ h2 s + n ∧ h2 s ≤ h1 s + n) (q1 : row1.Perm ((BL L1 List.length R1 h1 k).filter nd)) (q2 : row2.Perm ((BL L2 List.length R2 h2 k).filter nd)) :
    ∃ js, Full (nrAt row1 row2 (2 * n)) (row1.length + row2.length) js :=
  ((cplx_cpx hk).stable n hh ⟨p1, s1, d1⟩ ⟨p2, s2, d2⟩ k).full q1 q2
end G98
namespace G98
open PySem PySem.Spec PyProof.Rows L2
theorem for_range0 {n : Nat} {g : TG} {tb : L2.TS} {D : Ends} {σ : Sl} {H : Hp} (Pv : Nat → Sl → Hp → Prop) (h0 : Pv 0 σ H)
    (hs : ∀ i σ H, i < n → Pv i σ H → g (.int (i : Nat)) σ H fun σ2 H2 => tb { D with nx := Pv (i + 1), ct := Pv (i + 1), bk := D.nx } σ2 H2) (hd : ∀ σ H, Pv n σ H → D.nx σ H) :
    ∃ W : Nat → Nat → Sl → Hp → Prop, (∃ m, W 0 m σ H) ∧ ∀ i m σ H, W i m σ H →
      ((Itr 0 n).stop i H ∧ D.nx σ H) ∨ ((Itr 0 n).go i H ∧ ∃ N : Sl → Hp → Prop, (∀ σ' H', N σ' H' → ∃ m', m' < m ∧ W (i + 1) m' σ' H') ∧ ∀ x H', (Itr 0 n).yld i H x H' → g x σ H' fun σ2 H2 => tb { D with nx := N, ct := N, bk := D.nx } σ2 H2) :=
  for_range Pv h0 (fun i σ H hi p => by rw [Int.zero_add]; exact hs i σ H hi p) hd
theorem mk_same {H : Hp} {x dx : Addr} {o1 o2 : HO} (nx : H x = none) (ndx : H dx = none) : Same H (upd (upd H dx o1) x o2) := fun b o e => by
  rw [upd_ne (ne_of_none e nx), upd_ne (ne_of_none e ndx)]
  exact e
theorem SameBut.free {rw : Addr} {A B : Hp} (s : SameBut rw A B) {l : Addr} (h : B l = none) (hne : l ≠ rw) : A l = none := by
  cases q : A l with
  | none => rfl
  | some o =>
    have := s l o hne q
    rw [h] at this
    cases this
theorem TmI.widen {L : List (List Nat)} {b c : Nat} {h : List Nat → Nat} (t : TmI L b h) (hb : b ≤ c) : TmI L c h := ⟨t.mono, fun s hs => by have := t.top s hs; omega⟩
theorem TmI.tms {ks fs : List (List Nat)} {b : Nat} {h : List Nat → Nat} (t : TmI fs b h) (p : fs.Perm ks) (hU : ∀ s ∈ ks, s ∈ U25) (hb : b ≤ 900) : Tms ks h := ⟨fun s hs => t.mono s (p.mem_iff.mpr hs), fun s hs => by
  have := t.top s (p.mem_iff.mpr hs)
  have := U25_len s (hU s hs)
  omega⟩
structure Mkr (P : Program) (w : World) (K : PySem.W.Frag) (mg : Str → Option Value) (base : Heap) (k : Nat) (C : Addr) (ps : List Str) (sp : Sp) : Prop where
  ex : ∃ (f : Addr) (fd : FuncData), Mk K C f ∧ FnOk P w K mg base CX0 k f fd ps sp ∧ Binds K fd ps []
theorem pe_mk {X : Cx} {k j : Nat} {C : Addr} {x : Str} {ps : List Str} {sp : Sp} {p pos : Pos} {e : Expr} {es : List Expr} {t : TA} (c : Mkr X.prog X.w X.K X.mg X.base k C ps sp) (hr : Room j X.A) (hm : X.mg x = some (.ref C)) (ha : PA X (e :: es) t) (hk : k + 1 ≤ j := by decide) (hg : Gl X x := by rfl)
    (hdb : (x == ("__debug__" : Str)) = false := by decide) (he : starEach (e :: es) X.env = (false, eval e X.env) :: starEach es X.env := by rfl) (hpl : (backTo pos (starEach es X.env)).any (·.1) = false := by rfl) :
    PE X (.Call (.Name x p) (e :: es) [] pos) (tMake C sp [] E0 t) := by
  obtain ⟨f, fd, M, F, b⟩ := c.ex
  exact pe_make M F (hr.mono hk) hg hm b .nil pass0 ha hdb he hpl
theorem made_same {H H' : Hp} {x dx C : Addr} (nx : H x = none) (ndx : H dx = none) (sb : SameBut x (upd (upd H dx (.own x)) x (.ins C dx [])) H') : Same H H' := fun b o e =>
  sb b o (ne_of_none e nx) (by rw [upd_ne (ne_of_none e nx), upd_ne (ne_of_none e ndx)]; exact e)
theorem CxAt.but {C : Addr} {H H' : Hp} {p d rw : Addr} {ks : List (List Nat)} {l : List V} (h : CxAt C H p d ks) (el : H rw = some (.lst l)) (s : SameBut rw H H') : CxAt C H' p d ks := by
  obtain ⟨⟨dx, tp, e⟩, e2⟩ := h
  exact ⟨⟨dx, tp, s _ _ (ne_of e el fun z => by cases z) e⟩, s _ _ (ne_of e2 el fun z => by cases z) e2⟩
theorem LS.but {H H' : Hp} {t rw : Addr} {fs : List (List Nat)} {l : List V} (h : LS H t fs) (ne : t ≠ rw) (el : H rw = some (.lst l)) (s : SameBut rw H H') : LS H' t fs := by
  obtain ⟨ys, e, lv⟩ := h
  exact ⟨ys, s _ _ ne e, lv.tk (s.tk el)⟩
section
variable {P : Program} {w : World} {K : PySem.W.Frag} {mg : Str → Option Value} {base : Heap}
abbrev sLaw : Stmt := topS 55
abbrev nLaw : List Str := ["_law_script", "_law_row", "_law_turn", "_law_simplices_here", "_law_shape", "_law_faces_here", "_law_one", "_law_other", "_law_most", "_law_near", "_law_at", "_law_parts", "_law_far", "_law_degree", "_law_found", "_law_k", "_law_part", "_law_face"]
def spLaw (K : PySem.W.Frag) : Sp := fun vs H Q _ => ∃ (a : Addr) (ns : List Int), vs = [.ref a] ∧ SqL K H a (ns.map V.int) ∧ ns.length ≤ 63 ∧ ∀ H', Q (.bl true) H'
theorem scLaw : FnScope nLaw ["_law_script"] (defScope sLaw) := ⟨rfl, rfl, rfl, by decide +kernel, rfl, by decide +kernel, by decide +kernel⟩
abbrev rLen (K : PySem.W.Frag) : List V → Hp → VK → Prop := fun xs H Q => ∃ p ys, xs = [.ref p] ∧ (SqL K H p ys ∨ SqT K H p ys) ∧ Q (.int ys.length) H
abbrev rAbs : List V → Hp → VK → Prop := fun xs H Q => ∃ i, xs = [.int i] ∧ Q (.int (if i < 0 then -i else i)) H
theorem ok_law {f C D : Addr} {fd : FuncData} (T : Txt mg) (cf : CF K mg C) (cc : CC K mg D) (DT : Df P w K mg base 1 "_law_taken" ["_law_row", "_law_many"] (spTak K)) (DP : Df P w K mg base 2 "_law_pick" ["_law_row", "_law_things"] (spPick K))
    (DS : Df P w K mg base 3 "_law_simplices" ["_law_row", "_law_most", "_law_size"] (spLS K)) (DF : Df P w K mg base 1 "_law_faces" ["_law_simplices_here"] spLF) (DM : Df P w K mg base 3 "_law_times" ["_law_row", "_law_faces_here", "_law_most"] (spLT K))
    (MC : Mkr P w K mg base 5 D ["self", "simplices"] (spCI D)) (MF : Mkr P w K mg base 4 C ["self", "shape", "times"] (spFI C D)) (DB : Df P w K mg base 4 "bars" ["filtration", "degree"] (spBars C)) (DO : Df P w K mg base 30 "bottleneck" ["one", "other"] spBot)
    (F : Fun K "law" "law" sLaw f fd) : FnOk P w K mg base CX0 31 f fd ["_law_script"] (spLaw K) := by
  refine F.ok scLaw (fun vs H Q E h => ?_) (fun cdv A outer s0 H vs Q E hr h => ?_)
  · obtain ⟨a, ns, rfl, _⟩ := h
    rfl
  obtain ⟨a, ns, rfl, hS, _, q⟩ := h
  have hu := hu_of hr
  refine ⟨_, pss_cons (ps_set (i := 1) scLaw.nd rfl (.inl rfl) (pe_lst (pa_cons (pv 0) (pa_cons pe_int (pa_cons pe_int (pa_cons pe_int pa_nil))))))
    (pss_cons (ps_for PassesOwn.never rfl (pi_range1 (by rfl) T.range (pa_cons pe_int pa_nil)) (pg_name (i := 2) scLaw.nd rfl (.inl rfl))
      (pss_cons (ps_set (i := 3) scLaw.nd rfl (.inl rfl) (pe_f DS hr (pa_cons (pv 1) (pa_cons pe_int (pa_cons pe_int pa_nil)))))
      (pss_cons (ps_asg (pe_tup (pa_cons (pe_mk MC hr cc.mgC (pa_cons (pv 3) pa_nil)) (pa_cons (pe_f DF hr (pa_cons (pv 3) pa_nil)) pa_nil))) (pg_tup rfl (pgs_cons (pg_name (i := 4) scLaw.nd rfl (.inl rfl)) (pgs_cons (pg_name (i := 5) scLaw.nd rfl (.inr rfl)) pgs_nil))))
      (pss_cons (ps_set (i := 6) scLaw.nd rfl (.inr rfl) (pe_f DM hr (pa_cons (pv 1) (pa_cons (pv 5) (pa_cons (pe_f DP hr (pa_cons (pv 1) (pa_cons (pe_lst (pa_cons pe_int (pa_cons pe_int (pa_cons pe_int pa_nil)))) pa_nil))) pa_nil)))))
      (pss_cons (ps_asg (pe_tup (pa_cons (pe_f DM hr (pa_cons (pv 1) (pa_cons (pv 5) (pa_cons pe_int pa_nil)))) (pa_cons (pe_f DP hr (pa_cons (pv 1) (pa_cons (pe_lst (pa_cons pe_int (pa_cons pe_int (pa_cons pe_int pa_nil)))) pa_nil))) pa_nil))) (pg_tup rfl (pgs_cons (pg_name (i := 7) scLaw.nd rfl (.inr rfl)) (pgs_cons (pg_name (i := 8) scLaw.nd rfl (.inl rfl)) pgs_nil))))
      (C8.pss_cut (ps_if (pt_cmpR op_gt (pe_f DT hr (pa_cons (pv 1) (pa_cons pe_int pa_nil))) pe_int (nomark _))
        (pss_cons (ps_set (i := 9) scLaw.nd rfl (.inr rfl) pe_dnewT)
        (pss_cons (ps_for PassesOwn.never rfl (pi_range1 (by rfl) T.range (pa_cons (pe_callB call_len_seq (by rfl) T.len PySem.boot_len (pa_cons (pv 5) pa_nil)) pa_nil)) (pg_name (i := 10) scLaw.nd rfl (.inr rfl))
          (pss_cons (ps_setLc (i := 11) (own := [("_law_k", 15)]) (g := gName 15) (tt := tTest (tOp (rI0 fun i j => .bl (decide (j < i))) (tCB (rLen K) (tCons (tOp (rIxL K) (tVar 5) (tVar 10)) tNil)) (tC (.int 1)))) (te := tCutG K (tOp (rIxL K) (tVar 5) (tVar 10)) (tVar 15)) rfl scLaw.nd rfl rfl (sw_true rfl rfl rfl (by decide +kernel))
            (pi_range1 (by rfl) T.range (pa_cons (pe_callB call_len_seq (by rfl) T.len PySem.boot_len (pa_cons (pe_ix ix_list (pv 5) (pv 10) (fun _ _ => rfl)) pa_nil)) pa_nil)) (blkOk_by (N := nLaw) (sc := defScope sLaw) (by decide +kernel)) (fun _ _ _ _ _ => pg_name (i := 15) scLaw.nd rfl (.inl rfl))
            (fun _ _ _ _ _ => pts_one (pt_cmpR op_gt (pe_callB call_len_seq (by rfl) T.len PySem.boot_len (pa_cons (pe_ix ix_list (pv 5) (pv 10) (fun _ _ => rfl)) pa_nil)) pe_int (nomark _)))
            (fun _ _ _ _ _ => pe_op op_catA (pe_slice sl_tupA (pe_ix ix_list (pv 5) (pv 10) (fun _ _ => rfl)) po_none (po_some (pv 15))) (pe_slice sl_tupA (pe_ix ix_list (pv 5) (pv 10) (fun _ _ => rfl)) (po_some (pe_op op_add (pv 15) pe_int)) po_none)))
          (pss_one (ps_dput hu (pv 9) (pe_ix ix_list (pv 5) (pv 10) (fun _ _ => rfl)) (pe_callB (cr_max rfl) (by rfl) T.max (by decide +kernel) (pa_cons (pe_op op_cat
            (pe_lc (own := [("_law_part", 16)]) (g := gName 16) (tt := tYes) (te := tDGet (tVar 9) (tVar 16)) rfl scLaw.nd (pi_list (pv 11)) (blkOk_by (N := nLaw) (sc := defScope sLaw) (by decide +kernel)) (fun _ _ _ _ _ => pg_name (i := 16) scLaw.nd rfl (.inl rfl)) (fun _ _ _ _ _ => pts_nil)
              (fun _ _ _ _ _ => pe_dget hu (pv 9) (pv 16) (by first | exact (fun _ _ => rfl) | (intros; rfl) | trivial)))
            (pe_lst (pa_cons (pe_callB (call_max2 rfl) (by rfl) T.max (by decide +kernel) (pa_cons pe_int (pa_cons (pe_op op_add (pe_op op_sub (pe_ix ix_tup (pv 6) (pv 10) (fun _ _ => rfl)) (pv 8)) (pe_f DT hr (pa_cons (pv 1) (pa_cons (pe_op op_add (pe_op op_mul pe_int (pv 8)) pe_int) pa_nil)))) pa_nil))) pa_nil))) pa_nil)) rfl))))
        (pss_one (ps_set (i := 7) scLaw.nd rfl (.inr rfl) (pe_callTy call_tuple_of (by rfl) T.tuple (by decide +kernel) (pa_cons
          (pe_lc (own := [("_law_face", 17)]) (g := gName 17) (tt := tYes) (te := tDGet (tVar 9) (tVar 17)) rfl scLaw.nd (pi_list (pv 5)) (blkOk_by (N := nLaw) (sc := defScope sLaw) (by decide +kernel)) (fun _ _ _ _ _ => pg_name (i := 17) scLaw.nd rfl (.inl rfl)) (fun _ _ _ _ _ => pts_nil)
            (fun _ _ _ _ _ => pe_dget hu (pv 9) (pv 17) (by first | exact (fun _ _ => rfl) | (intros; rfl) | trivial))) pa_nil)))))) pss_nil)
      (pss_cons (ps_set (i := 12) scLaw.nd rfl (.inl rfl) (pe_callB (cr_max rfl) (by rfl) T.max (by decide +kernel) (pa_cons (pe_op op_cat
        (pe_lc (own := [("_law_at", 10)]) (g := gName 10) (tt := tYes) (te := tCB rAbs (tCons (tOp (rI0 fun i j => .int (i - j)) (tOp (rIxT K) (tVar 6) (tVar 10)) (tOp (rIxT K) (tVar 7) (tVar 10))) tNil)) rfl scLaw.nd (pi_range1 (by rfl) T.range (pa_cons (pe_callB call_len_seq (by rfl) T.len PySem.boot_len (pa_cons (pv 5) pa_nil)) pa_nil)) (blkOk_by (N := nLaw) (sc := defScope sLaw) (by decide +kernel)) (fun _ _ _ _ _ => pg_name (i := 10) scLaw.nd rfl (.inl rfl)) (fun _ _ _ _ _ => pts_nil)
          (fun _ _ _ _ _ => pe_callB call_abs (by rfl) T.abs (by decide +kernel) (pa_cons (pe_op op_sub (pe_ix ix_tup (pv 6) (pv 10) (fun _ _ => rfl)) (pe_ix ix_tup (pv 7) (pv 10) (fun _ _ => rfl))) pa_nil)))
        (pe_lst (pa_cons pe_int pa_nil))) pa_nil)))
      (pss_one (ps_for PassesOwn.never rfl (pi_range1 (by rfl) T.range (pa_cons pe_int pa_nil)) (pg_name (i := 13) scLaw.nd rfl (.inl rfl))
        (pss_cons (ps_set (i := 14) scLaw.nd rfl (.inl rfl) (pe_f DO hr (pa_cons (pe_f DB hr (pa_cons (pe_mk MF hr cf.mgC (pa_cons (pv 4) (pa_cons (pv 6) pa_nil))) (pa_cons (pv 13) pa_nil))) (pa_cons (pe_f DB hr (pa_cons (pe_mk MF hr cf.mgC (pa_cons (pv 4) (pa_cons (pv 7) pa_nil))) (pa_cons (pv 13) pa_nil))) pa_nil))))
        (pss_one (ps_if (PW.pt (pw_or (pt_cmp (pc_isN (pv 14))) (pw_or1 (pt_cmpR op_gt (pe_ix ix_tup (pv 14) pe_int (fun _ _ => rfl)) (pe_op op_mul pe_int (pv 12)) (nomark _))))) (pss_one ps_never) pss_nil)))))))))))
    ) (pss_one (ps_ret pe_bl))), ?_⟩
  refine ⟨_, rfl, by show 4 ≤ sizeLine; decide, fun rw nrw => ?_⟩
  have ra0 : RowAt K a ns (upd H rw (.lst [.ref a, .int 0, .int 3327, .int 0])) rw := ⟨(same_upd nrw).seq hS, 0, 3327, 0, upd_same, by decide, by decide, by decide, by decide⟩
  refine ⟨2, rfl, by decide, by decide, for_range0 (n := 2) (fun i σ H' => ∃ y2 y3 y4 y5 y6 y7 y8 y9 y10 y11 y12 y13 y14 : Option V, σ = [some (.ref a), some (.ref rw), y2, y3, y4, y5, y6, y7, y8, y9, y10, y11, y12, y13, y14, none, none, none] ∧ RowAt K a ns H' rw)
    ⟨none, none, none, none, none, none, none, none, none, none, none, none, none, rfl, ra0⟩ (fun turn σ H0 _ pv => ?_) fun σ H' _ => q H'⟩
  obtain ⟨y2, y3, y4, y5, y6, y7, y8, y9, y10, y11, y12, y13, y14, rfl, ra0⟩ := pv
  -- simplices, the complex, the faces
  refine ⟨_, rfl, rw, a, ns, rfl, ra0, fun H1 ts ss sb1 ra1 hts hss hsl => ?_⟩
  refine ⟨_, rfl, fun p dp np ndp nep => ⟨p, ts, dp, ss, rfl, upd_same, hts.tk (same_tk (mk_same np ndp)), hss, hsl, fun H2 d ks sb2 cx fc => ⟨rfl, ?_⟩⟩⟩
  have s2 : Same H1 H2 := made_same np ndp sb2
  refine ⟨_, rfl, ts, ss, rfl, hts.tk (same_tk s2), hss, fun H3 t ks2 fs s3 nt lt fc2 od => ⟨by show 2 ≤ sizeLine; decide, fun u nu => ⟨u, _, rfl, SqT.of upd_same, rfl, _, _, rfl, _, _, rfl, rfl, ?_⟩⟩⟩
  have ra2 := ra1.same s2
  have s4 : Same H3 (upd H3 u (.tup [.ref p, .ref t])) := same_upd nu
  have ra4 := ra2.same (s3.trans s4)
  have cx4 := cx.same (s3.trans s4)
  have lt4 := lt.same s4
  generalize upd H3 u (.tup [.ref p, .ref t]) = H4 at ra4 cx4 lt4
  have ntr : t ≠ rw := fun z => by
    obtain ⟨l, e⟩ := ra2.lst
    rw [z, e] at nt
    cases nt
  have hk : Cplx ks := fc.cplx hss
  have pkk : ks.Perm ks2 := (List.perm_ext_iff_of_nodup fc.nod fc2.nod).mpr fun k => by rw [fc.mem, fc2.mem]
  have ho : Ordd ks fs := ⟨od.perm.trans pkk.symm, od.srt⟩
  have hkf := hk.perm ho.perm
  have h25 := hkf.len
  obtain ⟨l4, el4⟩ := id ra4.lst
  -- one
  refine ⟨_, rfl, _, rfl, _, rfl, by show 3 ≤ sizeLine; decide, fun l nl => ⟨rw, a, l, ns, [2, 9, 40], rfl, by show 0 < 3; decide, by show 3 ≤ 1000; decide, upd_same, ra4.same (same_upd nl), fun H5 v sb5 ra5 hv => ?_⟩⟩
  have sbA : SameBut rw H4 H5 := (SameBut.of (same_upd nl)).trans sb5
  have hv40 : v ≤ 40 := by
    simp at hv
    omega
  refine ⟨rw, a, t, ns, v, ks, fs, rfl, ra5, lt4.but ntr el4 sbA, ntr, hk, ho, hv40, fun H6 p1 h1 sb6 ra6 e1 ti1 => ?_⟩
  have sbB := sbA.trans sb6
  obtain ⟨l6, el6⟩ := id ra6.lst
  -- other, most
  refine ⟨_, rfl, _, rfl, rw, a, t, ns, 9, ks, fs, rfl, ra6, lt4.but ntr el4 sbB, ntr, hk, ho, by decide, fun H7 p2 h2 sb7 ra7 e2 ti2 => ?_⟩
  obtain ⟨l7, el7⟩ := id ra7.lst
  refine ⟨_, rfl, by show 3 ≤ sizeLine; decide, fun l2 nl2 => ⟨rw, a, l2, ns, [1, 2, 6], rfl, by show 0 < 3; decide, by show 3 ≤ 1000; decide, upd_same, ra7.same (same_upd nl2), fun H8 mo sb8 ra8 hmo => ⟨by show 2 ≤ sizeLine; decide, fun u2 nu2 => ⟨u2, _, rfl, SqT.of upd_same, rfl, _, _, rfl, _, _, rfl, rfl, ?_⟩⟩⟩⟩
  have s9 : Same H8 (upd H8 u2 (.tup [.ref p2, .int (mo : Nat)])) := same_upd nu2
  have sb78 : SameBut rw H7 (upd H8 u2 (.tup [.ref p2, .int (mo : Nat)])) := (SameBut.of (same_upd nl2)).trans (sb8.trans (SameBut.of s9))
  have sb69 := sb7.trans sb78
  have sb49 := sbB.trans sb69
  have ra9 := ra8.same s9
  have e1 := sb69.tk el6 _ _ e1
  have e2 := sb78.tk el7 _ _ e2
  have lt9 := lt4.but ntr el4 sb49
  have cx9 := cx4.but el4 sb49
  generalize upd H8 u2 (.tup [.ref p2, .int (mo : Nat)]) = Hb at ra9 e1 e2 lt9 cx9
  have hmo6 : mo ≤ 6 := by
    simp at hmo
    omega
  obtain ⟨lb, elb⟩ := id ra9.lst
  obtain ⟨ys, et, lv⟩ := id lt9
  have hyl := lv.len
  -- nearer times
  refine ⟨fun σ' H' => ∃ (y9 y10 y11 : Option V) (p2 : Addr) (h2 : List Nat → Nat), σ' = [some (.ref a), some (.ref rw), some (.int (turn : Nat)), some (.ref ts), some (.ref p), some (.ref t), some (.ref p1), some (.ref p2), some (.int (mo : Nat)), y9, y10, y11, y12, y13, y14, none, none, none] ∧
      SameBut rw Hb H' ∧ RowAt K a ns H' rw ∧ H' p2 = some (.tup (tv h2 fs)) ∧ TmI fs 60 h2, ?_, fun σ' Hm mid => ?_⟩
  · refine ⟨_, rfl, rw, a, ns, 3, rfl, by decide, by decide, ra9, fun Hc x sbc rac hx => ⟨_, _, rfl, rfl, _, rfl, ite2 (fun _ => ?_) (fun _ => ⟨y9, y10, y11, p2, h2, rfl, sbc, rac, sbc.tk elb _ _ e2, ti2.widen (by decide)⟩)⟩⟩
    refine fun dn ndn => ?_
    have ndr : dn ≠ rw := fun z => by
      obtain ⟨l, e⟩ := rac.lst
      rw [z, e] at ndn
      cases ndn
    have nHb : Hb dn = none := sbc.free ndn ndr
    have rad : RowAt K a ns (upd Hc dn (.dT [])) rw := rac.same (same_upd ndn)
    have sbd : SameBut rw Hb (upd Hc dn (.dT [])) := sbc.trans (SameBut.of (same_upd ndn))
    refine ⟨_, rfl, t, ys, rfl, .inl (SqL.of (sbd _ _ ntr et)), _, rfl, by omega, by omega, ?_⟩
    have en : (((ys.length : Nat) : Int)).toNat = fs.length := by rw [hyl]; rfl
    rw [en]
    refine for_range0 (n := fs.length) (fun i σ H' => ∃ (y10 y11 : Option V) (g : List Nat → Nat), σ = [some (.ref a), some (.ref rw), some (.int (turn : Nat)), some (.ref ts), some (.ref p), some (.ref t), some (.ref p1), some (.ref p2), some (.int (mo : Nat)), some (.ref dn), y10, y11, y12, y13, y14, none, none, none] ∧
        SameBut rw Hb H' ∧ RowAt K a ns H' rw ∧ H' dn = some (.dT (clk g (fs.take i))) ∧ TmI (fs.take i) 56 g) ⟨y10, y11, fun _ => 0, rfl, sbd, rad, upd_same, TmI.nil _ _⟩ (fun i σ H1 hi pv => ?_) fun σ H1 pv => ?_
    · obtain ⟨y10, y11, g, rfl, sb, ra1, ed, ti⟩ := pv
      have es := nth_get hi
      generalize nth fs i = s at es
      obtain ⟨yb, eyb, b, rfl, hb⟩ := lv.get es
      have hsf := List.mem_of_getElem? es
      have hsU := hkf.sub s hsf
      have hs3 := U25_len s hsU
      have tkb := sb.tk elb
      have hb1 := tkb _ _ hb
      have et1 := sb _ _ ntr et
      have dlen : (((1 : Int) < (((iv s).length : Nat) : Int)) ↔ 1 < s.length) := by rw [iv_len]; omega
      have ed1 : decide ((1 : Int) < (((iv s).length : Nat) : Int)) = decide (1 < s.length) := decide_eq_decide.mpr dlen
      have seen : 1 < s.length → ∀ p ∈ brd s, p ∈ fs.take i := fun h1 p hp => ho.before es (hkf.down s hsf h1 p hp) (by have := U25_brdlen s hsU p hp; omega)
      refine ⟨_, rfl, _, rfl, t, ys, _, .ref b, rfl, rfl, SqL.of et1, atI_nat eyb, b, iv s, rfl, .inr (SqT.of hb1), _, rfl, by omega, by rw [iv_len]; omega, fun D1 hD1 => ?_⟩
      rw [iv_len]
      refine lc_flt (walk_range (lo := 0) (n := s.length)) (fun _ => decide (1 < s.length)) (fun j y H => IsS H y (s.eraseIdx j)) (fun j y H H' k e => e.tk k) (fun _ _ => True.intro) (small1000 (by omega)) hD1 (fun j z H2 H3 R N hj sm _ hy r nr => ?_) fun H2 zs sm eD1 hzl hzs => ?_
      · obtain ⟨rfl, rfl⟩ := hy
        have et2 := sm _ _ et1
        have hb2 := sm _ _ hb1
        refine ⟨rfl, _, rfl, _, rfl, t, ys, _, .ref b, rfl, rfl, SqL.of et2, atI_nat eyb, b, iv s, rfl, .inr (SqT.of hb2), _, _, rfl, rfl, _, rfl, ?_⟩
        rw [ed1]
        by_cases h1s : 1 < s.length
        · rw [decide_eq_true h1s]
          refine iteT ?_
          refine cut_use (a := b) (fun Hx Qx sx qx => ⟨_, rfl, _, rfl, t, ys, _, .ref b, rfl, rfl, SqL.of (sx _ _ et2), atI_nat eyb, qx⟩) (gives_var (by show some (some (V.int ((0 : Int) + (j : Int)))) = _; rw [Int.zero_add])) hb2 hj (by omega) fun c H4 s4 e4 => r (decide_eq_true h1s) _ _ s4 ⟨c, rfl, e4⟩
        · rw [decide_eq_false h1s]
          exact iteF (nr (decide_eq_false h1s) _ (Same.refl _))
      generalize hks : (List.range s.length).filter (fun _ => decide (1 < s.length)) = is at hzl hzs
      have isl : is.length ≤ 3 := by
        rw [← hks]
        have := List.length_filter_le (fun _ => decide (1 < s.length)) (List.range s.length)
        rw [List.length_range] at this
        omega
      have ism : ∀ j ∈ is, 1 < s.length ∧ j < s.length := fun j hj => by
        rw [← hks] at hj
        obtain ⟨g1, g2⟩ := List.mem_filter.mp hj
        exact ⟨of_decide_eq_true g2, List.mem_range.mp g1⟩
      have isall : 1 < s.length → ∀ j, j < s.length → j ∈ is := fun h1 j hj => by
        rw [← hks]
        exact List.mem_filter.mpr ⟨List.mem_range.mpr hj, decide_eq_true h1⟩
      have ed2 := sm _ _ ed
      refine ⟨_, rfl, D1, rfl, ⟨_, SqL.of eD1⟩, fun D2 hD2 => ?_⟩
      refine lc_map (walk_list (xs := zs)) (fun j y H => ∃ k, is[j]? = some k ∧ y = .int (g (s.eraseIdx k) : Nat)) (fun j y H H' _ e => e) (fun H3 s3 => SqL.of (s3 _ _ eD1)) (small1000 (by omega)) hD2 (fun j x H3 H4 R hj s3 _ hy r => ?_) fun H3 us s3 eD2 hul hus => ?_
      · obtain ⟨rfl, hx1⟩ := hy
        obtain ⟨k, ek, c, rfl, hc⟩ := hzs j x hx1
        obtain ⟨g1, g2⟩ := ism k (List.mem_of_getElem? ek)
        refine ⟨rfl, _, rfl, _, rfl, dn, .int (g (s.eraseIdx k) : Nat), rfl, ?_, r _ _ (Same.refl _) ⟨k, ek, rfl⟩⟩
        rw [← valV_clk (h := g) (seen g1 _ (mem_brd.mpr ⟨k, g2, rfl⟩))]
        exact DGet.t (s3 _ _ ed2) (by rw [kk_kV]; exact s3 _ _ hc)
      have eus : us = (is.map fun j => ((g (s.eraseIdx j) : Nat) : Int)).map V.int := by
        refine List.ext_getElem? fun j => ?_
        rw [List.map_map, List.getElem?_map]
        by_cases hj : j < us.length
        · have e1 : us[j]? = some us[j] := List.getElem?_eq_getElem hj
          obtain ⟨k, ek, ey⟩ := hus j _ e1
          rw [e1, ek, ey]
          rfl
        · rw [List.getElem?_eq_none (by omega), List.getElem?_eq_none (by omega)]
          rfl
      have s13 : Same H1 H3 := sm.trans s3
      have ra3 := ra1.same s13
      have nD2r : D2 ≠ rw := fun z => by
        obtain ⟨l, e⟩ := (ra1.same sm).lst
        rw [z, e] at hD2
        cases hD2
      -- the drawn one
      refine ⟨_, rfl, _, rfl, p1, tv h1 fs, _, _, rfl, rfl, SqT.of (s13 _ _ (tkb _ _ e1)), atI_nat (tv_at es), _, rfl, _, _, rfl, rfl, _, rfl, _, rfl, _, _, rfl, rfl, .inl ⟨by decide, by decide⟩, _, _, rfl, rfl, rw, a, ns, 2 * mo + 1, by rw [Int.natCast_add, Int.natCast_mul]; rfl, by omega, by omega, ra3, fun H5 x sb5 ra5 hx => ?_⟩
      refine ⟨_, _, rfl, rfl, _, _, rfl, ?_⟩
      obtain ⟨W, hW, hWb⟩ : ∃ W : Nat, (if ((h1 s : Int) - (mo : Int) + (x : Int)) > 0 then ((h1 s : Int) - (mo : Int) + (x : Int)) else 0) = (W : Int) ∧ W ≤ 56 + 5 * (s.length - 1) := by
        have := ti1.top s hsf
        refine ⟨((h1 s : Int) - (mo : Int) + (x : Int)).toNat, ?_, ?_⟩
        · split <;> omega
        · omega
      have hWV : V.int (if ((h1 s : Int) - (mo : Int) + (x : Int)) > 0 then ((h1 s : Int) - (mo : Int) + (x : Int)) else 0) = V.int (W : Int) := congrArg V.int hW
      refine ⟨by show 1 ≤ sizeLine; decide, fun l nl => ?_⟩
      have eD5 := sb5 _ _ nD2r eD2
      have s6 := same_upd nl (o := .lst [V.int (if ((h1 s : Int) - (mo : Int) + (x : Int)) > 0 then ((h1 s : Int) - (mo : Int) + (x : Int)) else 0)])
      refine ⟨D2, l, us, _, rfl, rfl, s6 _ _ eD5, upd_same, small_line (by rw [hul, hzl]; show is.length + 1 ≤ _; omega), fun pn npn => ?_⟩
      refine ⟨pn, (is.map fun j => ((g (s.eraseIdx j) : Nat) : Int)) ++ [(W : Int)], rfl, SqL.of (by rw [upd_same, eus, List.map_append]; exact congrArg some (congrArg HO.lst (congrArg (fun z => _ ++ [z]) hWV))), by simp, fun mx hmx hle => ?_⟩
      have s7 := s6.trans (same_upd npn (o := .lst (us ++ [V.int (if ((h1 s : Int) - (mo : Int) + (x : Int)) > 0 then ((h1 s : Int) - (mo : Int) + (x : Int)) else 0)])))
      have sb8 : SameBut rw Hb (upd (upd H5 l (.lst [V.int (if ((h1 s : Int) - (mo : Int) + (x : Int)) > 0 then ((h1 s : Int) - (mo : Int) + (x : Int)) else 0)])) pn (.lst (us ++ [V.int (if ((h1 s : Int) - (mo : Int) + (x : Int)) > 0 then ((h1 s : Int) - (mo : Int) + (x : Int)) else 0)]))) := sb.trans ((SameBut.of s13).trans (sb5.trans (SameBut.of s7)))
      have ra8 := ra5.same s7
      have ed8 := s7 _ _ (sb5 _ _ ndr (s13 _ _ ed))
      obtain ⟨M, rfl, hM⟩ : ∃ M : Nat, mx = (M : Int) ∧ M ≤ 56 + 5 * (s.length - 1) := by
        rcases List.mem_append.mp hmx with hz | hz
        · obtain ⟨j, hj, rfl⟩ := List.mem_map.mp hz
          obtain ⟨g1, g2⟩ := ism j hj
          have hbb : s.eraseIdx j ∈ brd s := mem_brd.mpr ⟨j, g2, rfl⟩
          have := ti.top _ (seen g1 _ hbb)
          have := U25_brdlen s hsU _ hbb
          exact ⟨_, rfl, by omega⟩
        · have : mx = (W : Int) := by simpa using hz
          exact ⟨W, this, hWb⟩
      have hmono : 1 < s.length → ∀ q ∈ brd s, g q ≤ M := fun h1s q hq => by
        obtain ⟨j, hj, rfl⟩ := mem_brd.mp hq
        have := hle ((g (s.eraseIdx j) : Nat) : Int) (List.mem_append_left _ (List.mem_map.mpr ⟨j, isall h1s j hj, rfl⟩))
        omega
      have hn : s ∉ fs.take i := take_new hkf.nod es
      have c1 : clk g (fs.take i) = clk (uph g s M) (fs.take i) := clk_congr fun u hu => (uph_ne (fun z : u = s => hn (z ▸ hu))).symm
      have c2 := putK_clk (h := uph g s M) hn
      rw [uph_same] at c2
      have put := DPut.t (k := kk s) (v := .int (M : Nat)) ed8 (by rw [kk_kV]; exact sb8.tk elb _ _ hb) (by rw [clk_len, List.length_take]; exact small1000 (by omega))
      rw [c1, c2] at put
      have tk1 : fs.take (i + 1) = fs.take i ++ [s] := by rw [List.take_add_one, es]; rfl
      refine ⟨_, rfl, _, rfl, _, rfl, t, ys, _, .ref b, rfl, rfl, SqL.of (sb8 _ _ ntr et), atI_nat eyb, dn, _, rfl, put, ?_⟩
      exact ⟨_, _, uph g s M, rfl, fun b o hb e => by rw [upd_ne (ne_of_none e nHb)]; exact sb8 _ _ hb e, row_of ra9 sb8 ra8 ndr nHb, by rw [upd_same, tk1], ti.put hk ho es hmono hM⟩
    · obtain ⟨y10, y11, g, rfl, sb, ra1, ed, ti⟩ := pv
      rw [List.take_length] at ed ti
      have tkb := sb.tk elb
      refine ⟨_, rfl, t, rfl, ⟨_, SqL.of (sb _ _ ntr et)⟩, fun D hD => lc_map (walk_list (xs := ys)) (fun j y H => ∃ s, fs[j]? = some s ∧ y = .int (g s : Nat)) (fun j y H1 H2 _ e => e) (fun H2 sm => SqL.of (sm _ _ (sb _ _ ntr et))) (small1000 (by omega)) hD (fun j x H2 H3 R hj sm _ hy r => ?_) fun H2 us sm eD hul hus => ?_⟩
      · obtain ⟨rfl, hx⟩ := hy
        obtain ⟨s, es, b, rfl, hb⟩ := lv.at' j x hx
        refine ⟨rfl, _, rfl, _, rfl, dn, .int (g s : Nat), rfl, ?_, r _ _ (Same.refl _) ⟨s, es, rfl⟩⟩
        rw [← valV_clk (h := g) (List.mem_of_getElem? es)]
        exact DGet.t (sm _ _ ed) (by rw [kk_kV]; exact sm _ _ (tkb _ _ hb))
      · have eus : us = tv g fs := by
          refine List.ext_getElem? fun j => ?_
          by_cases hj : j < us.length
          · have e1 : us[j]? = some us[j] := List.getElem?_eq_getElem hj
            obtain ⟨s, es, ey⟩ := hus j _ e1
            rw [e1, tv_at es, ey]
          · rw [List.getElem?_eq_none (by omega), List.getElem?_eq_none (by rw [tv_len]; omega)]
        refine ⟨D, us, rfl, .inl ⟨SqL.of eD, fun l nl => ?_⟩⟩
        have s2 : Same H1 (upd H2 l (.tup us)) := sm.trans (same_upd nl)
        exact ⟨_, _, _, l, g, rfl, sb.trans (SameBut.of s2), ra1.same s2, by rw [upd_same, eus], ti.widen (by decide)⟩
  -- how far
  · obtain ⟨y9, y10, y11, p2, h2, rfl, sbm, ram, e2m, ti2⟩ := mid
    have e1m := sbm.tk elb _ _ e1
    have etm := sbm _ _ ntr et
    have cxm := cx9.but elb sbm
    refine ⟨_, rfl, t, ys, rfl, .inl (SqL.of etm), _, rfl, by omega, by omega, fun D hD => ?_⟩
    have en : (((ys.length : Nat) : Int)).toNat = fs.length := by rw [hyl]; rfl
    rw [en]
    refine lc_map (walk_range (lo := 0) (n := fs.length)) (fun j y H => ∃ s, fs[j]? = some s ∧ y = .int (dst (h1 s) (h2 s) : Nat)) (fun j y H H' _ e => e) (fun _ _ => True.intro) (small1000 (by omega)) hD (fun j x H2 H3 R hj sm _ hy r => ?_) fun H2 us sm eD hul hus => ?_
    · obtain ⟨rfl, rfl⟩ := hy
      have es := nth_get hj
      have at1 : ∀ h : List Nat → Nat, atI (tv h fs) ((0 : Int) + (j : Int)) = some (.int (h (nth fs j) : Nat)) := fun h => by
        rw [Int.zero_add]
        exact atI_nat (tv_at es)
      refine ⟨rfl, _, rfl, _, rfl, p1, tv h1 fs, _, _, rfl, rfl, SqT.of (sm _ _ e1m), at1 h1, _, rfl, _, rfl, p2, tv h2 fs, _, _, rfl, rfl, SqT.of (sm _ _ e2m), at1 h2, _, _, rfl, rfl, _, rfl, r _ _ (Same.refl _) ⟨_, es, congrArg V.int (abs_dst _ _)⟩⟩
    have eus : us = ((fs.map fun s => dst (h1 s) (h2 s)).map fun n : Nat => (n : Int)).map V.int := by
      refine List.ext_getElem? fun j => ?_
      rw [List.map_map, List.map_map, List.getElem?_map]
      by_cases hj : j < us.length
      · have e1 : us[j]? = some us[j] := List.getElem?_eq_getElem hj
        obtain ⟨s, es, ey⟩ := hus j _ e1
        rw [e1, es, ey]
        rfl
      · rw [List.getElem?_eq_none (by omega), List.getElem?_eq_none (by omega)]
        rfl
    refine ⟨by show 1 ≤ sizeLine; decide, fun l nl => ?_⟩
    have s5 := same_upd nl (o := .lst [V.int 0])
    refine ⟨D, l, us, [.int 0], rfl, rfl, s5 _ _ eD, upd_same, small_line (by rw [hul]; show fs.length + 1 ≤ _; omega), fun pn npn => ?_⟩
    have s6 : Same Hm (upd (upd H2 l (.lst [V.int 0])) pn (.lst (us ++ [.int 0]))) := sm.trans (s5.trans (same_upd npn))
    have ep : (upd (upd H2 l (.lst [V.int 0])) pn (.lst (us ++ [.int 0]))) pn = some (.lst (((((fs.map fun s => dst (h1 s) (h2 s)).map fun n : Nat => (n : Int))) ++ [0]).map V.int)) := by
      rw [upd_same, eus, List.map_append]
      rfl
    generalize upd (upd H2 l (.lst [V.int 0])) pn (.lst (us ++ [.int 0])) = H3 at s6 ep
    refine ⟨pn, _, rfl, SqL.of ep, by simp, fun mx hmx hle => ?_⟩
    obtain ⟨N, rfl⟩ : ∃ N : Nat, mx = (N : Int) := by
      rcases List.mem_append.mp hmx with hz | hz
      · obtain ⟨n, _, rfl⟩ := List.mem_map.mp hz
        exact ⟨n, rfl⟩
      · have : mx = 0 := by simpa using hz
        exact ⟨0, this⟩
    have hfar : ∀ s ∈ ks, h1 s ≤ h2 s + N ∧ h2 s ≤ h1 s + N := fun s hs => by
      have := hle ((dst (h1 s) (h2 s) : Nat) : Int) (List.mem_append_left _ (List.mem_map.mpr ⟨_, List.mem_map.mpr ⟨s, ho.perm.mem_iff.mpr hs, rfl⟩, rfl⟩))
      unfold dst at this
      omega
    have ra3 := ram.same s6
    have e13 := s6 _ _ e1m
    have e23 := s6 _ _ e2m
    have cx3 := cxm.same s6
    have t1 : Tms ks h1 := ti1.tms ho.perm hk.sub (by decide)
    have t2 : Tms ks h2 := ti2.tms ho.perm hk.sub (by decide)
    -- each degree
    refine ⟨3, rfl, by decide, by decide, for_range0 (n := 3) (fun k σ H' => ∃ y13 y14 : Option V, σ = [some (.ref a), some (.ref rw), some (.int (turn : Nat)), some (.ref ts), some (.ref p), some (.ref t), some (.ref p1), some (.ref p2), some (.int (mo : Nat)), y9, y10, y11, some (.int (N : Nat)), y13, y14, none, none, none] ∧ Same H3 H')
      ⟨y13, y14, rfl, Same.refl _⟩ (fun k σ H4 hk3 pv => ?_) fun σ H4 pv => ?_⟩
    · obtain ⟨y13, y14, rfl, s4⟩ := pv
      refine ⟨_, rfl, _, rfl, fun x1 dx1 nx1 ndx1 ne1 => ?_⟩
      have m1 := mk_same (o1 := .own x1) (o2 := .ins C dx1 []) nx1 ndx1
      refine ⟨x1, p, d, p1, dx1, ks, fs, h1, rfl, upd_same, cx3.same (s4.trans m1), m1 _ _ (s4 _ _ e13), hk, ho, t1, fun H5 k1 sb5 ft1 => ⟨rfl, ?_⟩⟩
      have s5 := made_same nx1 ndx1 sb5
      refine ⟨_, rfl, x1, k1, fs, h1, k, rfl, ft1, hkf, by omega, fun H6 r1 z1 row1 L1 c1 s6 er1 rv1 pL1 sL1 d1 q1 => ?_⟩
      have s46 := s4.trans (s5.trans s6)
      refine ⟨_, rfl, _, rfl, fun x2 dx2 nx2 ndx2 ne2 => ?_⟩
      have m2 := mk_same (o1 := .own x2) (o2 := .ins C dx2 []) nx2 ndx2
      refine ⟨x2, p, d, p2, dx2, ks, fs, h2, rfl, upd_same, cx3.same (s46.trans m2), m2 _ _ (s46 _ _ e23), hk, ho, t2, fun H7 k2 sb7 ft2 => ⟨rfl, ?_⟩⟩
      have s7 := made_same nx2 ndx2 sb7
      refine ⟨_, rfl, x2, k2, fs, h2, k, rfl, ft2, hkf, by omega, fun H8 r2 z2 row2 L2 c2 s8 er2 rv2 pL2 sL2 d2 q2 => ?_⟩
      have s78 := s7.trans s8
      have ok1 := row_ok (hkf.perm pL1) (fun s hs => t1.mono s (ho.perm.mem_iff.mp (pL1.mem_iff.mp hs))) (fun s hs => t1.top s (ho.perm.mem_iff.mp (pL1.mem_iff.mp hs))) sL1 d1 q1
      have ok2 := row_ok (hkf.perm pL2) (fun s hs => t2.mono s (ho.perm.mem_iff.mp (pL2.mem_iff.mp hs))) (fun s hs => t2.top s (ho.perm.mem_iff.mp (pL2.mem_iff.mp hs))) sL2 d2 q2
      have full := law_full hk (pL1.trans ho.perm) sL1 d1 (pL2.trans ho.perm) sL2 d2 hfar q1 q2
      refine ⟨r1, r2, 2 * N, z1, z2, row1, row2, rfl, s78 _ _ er1, er2, rv1.tk IsB.stb (same_tk s78), rv2, ok1.len, ok2.len, ok1.ok, ok2.ok, full, fun H9 rr fo xx s9 err hxx => ?_⟩
      refine ⟨_, rfl, _, rfl, iteF ⟨_, rfl, rr, _, 0, _, rfl, rfl, SqT.of err, atI_nat (j := 0) rfl, _, rfl, _, _, rfl, rfl, .inl ⟨by decide, by decide⟩, _, _, rfl, rfl, _, rfl, ?_⟩⟩
      have ef : decide ((2 : Int) * (N : Int) < (xx : Int)) = false := decide_eq_false (by omega)
      rw [ef]
      exact iteF ⟨_, _, rfl, s46.trans (s78.trans s9)⟩
    · obtain ⟨y13, y14, rfl, s4⟩ := pv
      exact ⟨_, _, _, _, _, _, _, _, _, _, _, _, _, rfl, ra3.same s4⟩
end
end G98
namespace G98
open PySem PySem.Spec PyProof.Rows L2
/-! ### what the top has written -/
def Fn1 (K : PySem.W.Frag) (mg : Str → Option Value) (x : Str) (st : Stmt) : Prop := ∃ (f : Addr) (fd : FuncData), Fun K x x st f fd ∧ mg x = some (.ref f)
theorem fn1_mk {K : PySem.W.Frag} {h : Heap} {mg : Str → Option Value} (X : K.In h) (G : h.Ns mainGlobals mg) {x : Str} {st : Stmt} {f : Addr} {od an : Option Addr} {sl : Array (Option Value)} {oc kV dc pm cd ct : Value} (a : PySem.W.nsIn K mainGlobals x = some (some (.ref f)))
    (l : K.lookup f = some ⟨oc, od, .func (PySem.W.fnOf x x (defArgs st) (defBody st) (defScope st) .none kV dc pm an cd ct), sl⟩) (c : PySem.W.codeIn K cd x = true) (k : PySem.W.keepIn K (.ref f) = true) : Fn1 K mg x st := ⟨f, _, fun_mk l c k, PySem.W.mg_of X G a⟩
structure Cl1 (K : PySem.W.Frag) (mg : Str → Option Value) (x q : Str) (st : Stmt) (C f : Addr) (fd : FuncData) : Prop where
  F : Fun K "__init__" q st f fd
  made : Mk K C f
  ins : C8.InsC K C
  mgC : mg x = some (.ref C)
theorem cl1_mk {K : PySem.W.Frag} {h : Heap} {mg : Str → Option Value} (X : K.In h) (G : h.Ns mainGlobals mg) {x q : Str} {st : Stmt} {C f : Addr} {od an : Option Addr} {sl : Array (Option Value)} {oc kV dc pm cd ct : Value} (aC : PySem.W.nsIn K mainGlobals x = some (some (.ref C)))
    (a : PySem.W.findIn K (.ref C) "__init__" = some (some (.ref f))) (i : PySem.W.isFn K (.ref f) = true) (l : K.lookup f = some ⟨oc, od, .func (PySem.W.fnOf "__init__" q (defArgs st) (defBody st) (defScope st) .none kV dc pm an cd ct), sl⟩) (c : PySem.W.codeIn K cd q = true) (k : PySem.W.keepIn K (.ref f) = true)
    (pg : PySem.W.plainGet K C Str.empty = true) (hd : PySem.W.hasDictIn K C = true) (po : PySem.W.plainOver K C = true) (sa : PySem.W.findIn K (.ref C) "__setattr__" = some (some (.builtin "object.__setattr__"))) (mk : PySem.W.makesIn K C = true) (kc : PySem.W.keepIn K (.ref C) = true)
    (ha : PySem.W.findIn K (.ref C) "__class__" = some (some (.builtin "object.__class__"))) (hn : PySem.W.specialIn K (.builtin "object.__class__") "__get__" = some (some (.builtin "getset_descriptor.__get__"))) (htk : PySem.W.takesIn K (.builtin "object.__class__") = some true)
    (hm : PySem.W.mroIn K C (.type "object") = some true) : Cl1 K mg x q st C f (PySem.W.fnOf "__init__" q (defArgs st) (defBody st) (defScope st) .none kV dc pm an cd ct) :=
  ⟨fun_mk l c k, ⟨mk, a, i, kc⟩, ⟨⟨pg, hd, po, sa⟩, ha, hn, htk, hm, if_pos (beq_self_eq_true _)⟩, PySem.W.mg_of X G aC⟩
theorem const_mk {K : PySem.W.Frag} {h : Heap} {mg : Str → Option Value} (X : K.In h) (G : h.Ns mainGlobals mg) {x : Str} {i : Int} {v : Value} (a : PySem.W.nsIn K mainGlobals x = some (some v)) (e : ∃ t, v = .int i t) : ∃ t, mg x = some (.int i t) := by
  obtain ⟨t, rfl⟩ := e
  exact ⟨t, PySem.W.mg_of X G a⟩
def ClC (K : PySem.W.Frag) (mg : Str → Option Value) : Prop := ∃ (C f : Addr) (fd : FuncData), Cl1 K mg "Complex" "Complex.__init__" sCI C f fd ∧ PySem.W.findIn K (.ref C) "faces" = some none ∧ PySem.W.findIn K (.ref C) "tops" = some none
def ClF (K : PySem.W.Frag) (mg : Str → Option Value) : Prop := ∃ (C f : Addr) (fd : FuncData), Cl1 K mg "Filtration" "Filtration.__init__" sFI C f fd ∧ PySem.W.findIn K (.ref C) "shape" = some none ∧ PySem.W.findIn K (.ref C) "clock" = some none ∧ PySem.W.findIn K (.ref C) "given" = some none

structure All (K : PySem.W.Frag) (mg : Str → Option Value) : Prop where
  T : Txt mg
  cc : ClC K mg
  cf : ClF K mg
  f1 : Fn1 K mg "is_integer" sIsInteger
  f2 : Fn1 K mg "is_in" sIsIn
  f3 : Fn1 K mg "is_list" sIsList
  f4 : Fn1 K mg "is_ascending" sIsAsc
  f5 : Fn1 K mg "is_simplex" sIsSimplex
  f6 : Fn1 K mg "parts_of" sParts
  f7 : Fn1 K mg "generated" sGen
  f8 : Fn1 K mg "in_order" sInOrder
  f9 : Fn1 K mg "maximal" sMax
  f10 : Fn1 K mg "need_complex" sNC
  f11 : Fn1 K mg "is_time" sIsTime
  f12 : Fn1 K mg "need_filtration" sNF
  f13 : Fn1 K mg "own_order" sOO
  f14 : Fn1 K mg "is_bar" sIsBar
  f15 : Fn1 K mg "need_bars" sNB
  f16 : Fn1 K mg "cost" sCost
  f17 : Fn1 K mg "is_near" sNear
  f18 : Fn1 K mg "improved" sImp
  f19 : Fn1 K mg "matched" sMat
  f20 : Fn1 K mg "bottleneck" sBot
  f21 : Fn1 K mg "need_degree" sND
  f22 : Fn1 K mg "masks_of" sMO
  f23 : Fn1 K mg "places_of_pairs" sPP
  f24 : Fn1 K mg "told_pairs" sTP
  f25 : Fn1 K mg "sorted_bars" sSB
  f26 : Fn1 K mg "bars" sBars
  f27 : Fn1 K mg "_law_taken" sTak
  f28 : Fn1 K mg "_law_pick" sPick
  f29 : Fn1 K mg "_law_simplex" sLx
  f30 : Fn1 K mg "_law_simplices" sLS
  f31 : Fn1 K mg "_law_faces" sLF
  f32 : Fn1 K mg "_law_times" sLT
  f33 : Fn1 K mg "law" sLaw
theorem all_ok {P : Program} {w : World} {K : PySem.W.Frag} {mg : Str → Option Value} {fa : Addr} (A : All K mg) (hfa : mg "law" = some (.ref fa)) :
    ∃ fd : FuncData, (∀ (s : Shared) (v : Value), BindsTo s fd ⟨[v], []⟩ [("_law_script", v)]) ∧ ∀ base : Heap, FnOk P w K mg base CX0 31 fa fd ["_law_script"] (spLaw K) := by
  have T := A.T
  obtain ⟨D, gC, fdC, cC, n1, n2⟩ := A.cc
  obtain ⟨C, gF, fdF, cF, n3, n4, n5⟩ := A.cf
  have cc : CC K mg D := ⟨cC.ins.cl, n1, n2, cC.ins, cC.mgC⟩
  have cf : CF K mg C := ⟨cF.ins.cl, n3, n4, n5, cF.ins, cF.mgC⟩
  obtain ⟨a_f1, d_f1, F_f1, m_f1⟩ := A.f1
  have b_f1 : Binds K d_f1 ["value"] [] := F_f1.binds fun _ _ _ _ _ _ us hl => match us, hl with | [_], _ => rfl
  obtain ⟨a_f2, d_f2, F_f2, m_f2⟩ := A.f2
  have b_f2 : Binds K d_f2 ["value", "least", "most"] [] := F_f2.binds fun _ _ _ _ _ _ us hl => match us, hl with | [_, _, _], _ => rfl
  obtain ⟨a_f3, d_f3, F_f3, m_f3⟩ := A.f3
  have b_f3 : Binds K d_f3 ["value", "least", "most"] [] := F_f3.binds fun _ _ _ _ _ _ us hl => match us, hl with | [_, _, _], _ => rfl
  obtain ⟨a_f4, d_f4, F_f4, m_f4⟩ := A.f4
  have b_f4 : Binds K d_f4 ["value", "least", "most"] [] := F_f4.binds fun _ _ _ _ _ _ us hl => match us, hl with | [_, _, _], _ => rfl
  obtain ⟨a_f5, d_f5, F_f5, m_f5⟩ := A.f5
  have b_f5 : Binds K d_f5 ["value"] [] := F_f5.binds fun _ _ _ _ _ _ us hl => match us, hl with | [_], _ => rfl
  obtain ⟨a_f6, d_f6, F_f6, m_f6⟩ := A.f6
  have b_f6 : Binds K d_f6 ["simplex"] [] := F_f6.binds fun _ _ _ _ _ _ us hl => match us, hl with | [_], _ => rfl
  obtain ⟨a_f7, d_f7, F_f7, m_f7⟩ := A.f7
  have b_f7 : Binds K d_f7 ["simplices"] [] := F_f7.binds fun _ _ _ _ _ _ us hl => match us, hl with | [_], _ => rfl
  obtain ⟨a_f8, d_f8, F_f8, m_f8⟩ := A.f8
  have b_f8 : Binds K d_f8 ["simplices"] [] := F_f8.binds fun _ _ _ _ _ _ us hl => match us, hl with | [_], _ => rfl
  obtain ⟨a_f9, d_f9, F_f9, m_f9⟩ := A.f9
  have b_f9 : Binds K d_f9 ["faces"] [] := F_f9.binds fun _ _ _ _ _ _ us hl => match us, hl with | [_], _ => rfl
  obtain ⟨a_f10, d_f10, F_f10, m_f10⟩ := A.f10
  have b_f10 : Binds K d_f10 ["value"] [] := F_f10.binds fun _ _ _ _ _ _ us hl => match us, hl with | [_], _ => rfl
  obtain ⟨a_f11, d_f11, F_f11, m_f11⟩ := A.f11
  have b_f11 : Binds K d_f11 ["value"] [] := F_f11.binds fun _ _ _ _ _ _ us hl => match us, hl with | [_], _ => rfl
  obtain ⟨a_f12, d_f12, F_f12, m_f12⟩ := A.f12
  have b_f12 : Binds K d_f12 ["value"] [] := F_f12.binds fun _ _ _ _ _ _ us hl => match us, hl with | [_], _ => rfl
  obtain ⟨a_f13, d_f13, F_f13, m_f13⟩ := A.f13
  have b_f13 : Binds K d_f13 ["filtration"] [] := F_f13.binds fun _ _ _ _ _ _ us hl => match us, hl with | [_], _ => rfl
  obtain ⟨a_f14, d_f14, F_f14, m_f14⟩ := A.f14
  have b_f14 : Binds K d_f14 ["value"] [] := F_f14.binds fun _ _ _ _ _ _ us hl => match us, hl with | [_], _ => rfl
  obtain ⟨a_f15, d_f15, F_f15, m_f15⟩ := A.f15
  have b_f15 : Binds K d_f15 ["value"] [] := F_f15.binds fun _ _ _ _ _ _ us hl => match us, hl with | [_], _ => rfl
  obtain ⟨a_f16, d_f16, F_f16, m_f16⟩ := A.f16
  have b_f16 : Binds K d_f16 ["bar", "other"] [] := F_f16.binds fun _ _ _ _ _ _ us hl => match us, hl with | [_, _], _ => rfl
  obtain ⟨a_f17, d_f17, F_f17, m_f17⟩ := A.f17
  have b_f17 : Binds K d_f17 ["bar", "other", "doubled"] [] := F_f17.binds fun _ _ _ _ _ _ us hl => match us, hl with | [_, _, _], _ => rfl
  obtain ⟨a_f18, d_f18, F_f18, m_f18⟩ := A.f18
  have b_f18 : Binds K d_f18 ["left", "right", "doubled", "mates", "place", "met"] [] := F_f18.binds fun _ _ _ _ _ _ us hl => match us, hl with | [_, _, _, _, _, _], _ => rfl
  obtain ⟨a_f19, d_f19, F_f19, m_f19⟩ := A.f19
  have b_f19 : Binds K d_f19 ["one", "other", "doubled"] [] := F_f19.binds fun _ _ _ _ _ _ us hl => match us, hl with | [_, _, _], _ => rfl
  obtain ⟨a_f20, d_f20, F_f20, m_f20⟩ := A.f20
  have b_f20 : Binds K d_f20 ["one", "other"] [] := F_f20.binds fun _ _ _ _ _ _ us hl => match us, hl with | [_, _], _ => rfl
  obtain ⟨a_f21, d_f21, F_f21, m_f21⟩ := A.f21
  have b_f21 : Binds K d_f21 ["degree", "least"] [] := F_f21.binds fun _ _ _ _ _ _ us hl => match us, hl with | [_, _], _ => rfl
  obtain ⟨a_f22, d_f22, F_f22, m_f22⟩ := A.f22
  have b_f22 : Binds K d_f22 ["order"] [] := F_f22.binds fun _ _ _ _ _ _ us hl => match us, hl with | [_], _ => rfl
  obtain ⟨a_f23, d_f23, F_f23, m_f23⟩ := A.f23
  have b_f23 : Binds K d_f23 ["order"] [] := F_f23.binds fun _ _ _ _ _ _ us hl => match us, hl with | [_], _ => rfl
  obtain ⟨a_f24, d_f24, F_f24, m_f24⟩ := A.f24
  have b_f24 : Binds K d_f24 ["order", "places"] [] := F_f24.binds fun _ _ _ _ _ _ us hl => match us, hl with | [_, _], _ => rfl
  obtain ⟨a_f25, d_f25, F_f25, m_f25⟩ := A.f25
  have b_f25 : Binds K d_f25 ["some"] [] := F_f25.binds fun _ _ _ _ _ _ us hl => match us, hl with | [_], _ => rfl
  obtain ⟨a_f26, d_f26, F_f26, m_f26⟩ := A.f26
  have b_f26 : Binds K d_f26 ["filtration", "degree"] [] := F_f26.binds fun _ _ _ _ _ _ us hl => match us, hl with | [_, _], _ => rfl
  obtain ⟨a_f27, d_f27, F_f27, m_f27⟩ := A.f27
  have b_f27 : Binds K d_f27 ["_law_row", "_law_many"] [] := F_f27.binds fun _ _ _ _ _ _ us hl => match us, hl with | [_, _], _ => rfl
  obtain ⟨a_f28, d_f28, F_f28, m_f28⟩ := A.f28
  have b_f28 : Binds K d_f28 ["_law_row", "_law_things"] [] := F_f28.binds fun _ _ _ _ _ _ us hl => match us, hl with | [_, _], _ => rfl
  obtain ⟨a_f29, d_f29, F_f29, m_f29⟩ := A.f29
  have b_f29 : Binds K d_f29 ["_law_row", "_law_most", "_law_size"] [] := F_f29.binds fun _ _ _ _ _ _ us hl => match us, hl with | [_, _, _], _ => rfl
  obtain ⟨a_f30, d_f30, F_f30, m_f30⟩ := A.f30
  have b_f30 : Binds K d_f30 ["_law_row", "_law_most", "_law_size"] [] := F_f30.binds fun _ _ _ _ _ _ us hl => match us, hl with | [_, _, _], _ => rfl
  obtain ⟨a_f31, d_f31, F_f31, m_f31⟩ := A.f31
  have b_f31 : Binds K d_f31 ["_law_simplices_here"] [] := F_f31.binds fun _ _ _ _ _ _ us hl => match us, hl with | [_], _ => rfl
  obtain ⟨a_f32, d_f32, F_f32, m_f32⟩ := A.f32
  have b_f32 : Binds K d_f32 ["_law_row", "_law_faces_here", "_law_most"] [] := F_f32.binds fun _ _ _ _ _ _ us hl => match us, hl with | [_, _, _], _ => rfl
  obtain ⟨a0, d0, F0, m0⟩ := A.f33
  have ea : a0 = fa := by
    have := m0.symm.trans hfa
    cases this
    rfl
  subst ea
  have bC : Binds K fdC ["self", "simplices"] [] := cC.F.binds fun _ _ _ _ _ _ us hl => match us, hl with | [_, _], _ => rfl
  have bF : Binds K fdF ["self", "shape", "times"] [] := cF.F.binds fun _ _ _ _ _ _ us hl => match us, hl with | [_, _, _], _ => rfl
  refine ⟨d0, ?_, fun base => ?_⟩
  · obtain ⟨oc, od, kV, doc, pm, an, cdv, ct, osl, rfl, lk, hcd⟩ := F0.ex
    exact fun s v => .of_eq rfl
  have D_f1 := df_mk (P := P) (w := w) (base := base) F_f1 m_f1 b_f1 (ok_is_integer T F_f1)
  have D_f2 := df_mk (P := P) (w := w) (base := base) F_f2 m_f2 b_f2 (ok_is_in D_f1 F_f2)
  have D_f3 := df_mk (P := P) (w := w) (base := base) F_f3 m_f3 b_f3 (ok_is_list T F_f3)
  have D_f4 := df_mk (P := P) (w := w) (base := base) F_f4 m_f4 b_f4 (ok_is_asc T D_f3 D_f2 F_f4)
  have D_f5 := df_mk (P := P) (w := w) (base := base) F_f5 m_f5 b_f5 (ok_is_simplex T D_f4 F_f5)
  have D_f6 := df_mk (P := P) (w := w) (base := base) F_f6 m_f6 b_f6 (ok_parts F_f6)
  have D_f7 := df_mk (P := P) (w := w) (base := base) F_f7 m_f7 b_f7 (ok_gen T D_f6 F_f7)
  have D_f8 := df_mk (P := P) (w := w) (base := base) F_f8 m_f8 b_f8 (ok_in_order T F_f8)
  have D_f9 := df_mk (P := P) (w := w) (base := base) F_f9 m_f9 b_f9 (ok_maximal T F_f9)
  have D_f10 := df_mk (P := P) (w := w) (base := base) F_f10 m_f10 b_f10 (ok_nc T cc F_f10)
  have D_f11 := df_mk (P := P) (w := w) (base := base) F_f11 m_f11 b_f11 (ok_is_time T D_f2 F_f11)
  have D_f12 := df_mk (P := P) (w := w) (base := base) F_f12 m_f12 b_f12 (ok_nf T cf F_f12)
  have D_f13 := df_mk (P := P) (w := w) (base := base) F_f13 m_f13 b_f13 (ok_oo T cf F_f13)
  have D_f14 := df_mk (P := P) (w := w) (base := base) F_f14 m_f14 b_f14 (ok_is_bar T D_f3 D_f11 F_f14)
  have D_f15 := df_mk (P := P) (w := w) (base := base) F_f15 m_f15 b_f15 (ok_nb T D_f3 D_f14 F_f15)
  have D_f16 := df_mk (P := P) (w := w) (base := base) F_f16 m_f16 b_f16 (ok_cost T F_f16)
  have D_f17 := df_mk (P := P) (w := w) (base := base) F_f17 m_f17 b_f17 (ok_near D_f16 F_f17)
  have D_f18 : Df P w K mg base 28 "improved" psImp (spImp 25) := df_imp T D_f17 F_f18 m_f18 b_f18 25
  have D_f19 := df_mk (P := P) (w := w) (base := base) F_f19 m_f19 b_f19 (ok_mat T D_f18 F_f19)
  have D_f20 := df_mk (P := P) (w := w) (base := base) F_f20 m_f20 b_f20 (ok_bot T D_f15 D_f16 D_f19 F_f20)
  have D_f21 := df_mk (P := P) (w := w) (base := base) F_f21 m_f21 b_f21 (ok_nd T D_f2 F_f21)
  have D_f22 := df_mk (P := P) (w := w) (base := base) F_f22 m_f22 b_f22 (ok_mo T F_f22)
  have D_f23 := df_mk (P := P) (w := w) (base := base) F_f23 m_f23 b_f23 (ok_pp T D_f22 F_f23)
  have D_f24 := df_mk (P := P) (w := w) (base := base) F_f24 m_f24 b_f24 (ok_tp T F_f24)
  have D_f25 := df_mk (P := P) (w := w) (base := base) F_f25 m_f25 b_f25 (ok_sb T F_f25)
  have D_f26 := df_mk (P := P) (w := w) (base := base) F_f26 m_f26 b_f26 (ok_bars T cf D_f12 D_f21 D_f13 D_f23 D_f24 D_f25 F_f26)
  have D_f27 := df_mk (P := P) (w := w) (base := base) F_f27 m_f27 b_f27 (ok_tak T F_f27)
  have D_f28 := df_mk (P := P) (w := w) (base := base) F_f28 m_f28 b_f28 (ok_pick T D_f27 F_f28)
  have D_f29 := df_mk (P := P) (w := w) (base := base) F_f29 m_f29 b_f29 (ok_lx T D_f27 F_f29)
  have D_f30 := df_mk (P := P) (w := w) (base := base) F_f30 m_f30 b_f30 (ok_ls T D_f27 D_f29 F_f30)
  have D_f31 := df_mk (P := P) (w := w) (base := base) F_f31 m_f31 b_f31 (ok_lf T F_f31)
  have D_f32 := df_mk (P := P) (w := w) (base := base) F_f32 m_f32 b_f32 (ok_lt T D_f27 D_f28 F_f32)
  have MC : Mkr P w K mg base 5 D ["self", "simplices"] (spCI D) := ⟨gC, fdC, cC.made, ok_ci T cc D_f3 D_f5 D_f7 D_f9 cC.F, bC⟩
  have MF : Mkr P w K mg base 4 C ["self", "shape", "times"] (spFI C D) := ⟨gF, fdF, cF.made, ok_fi T cf cc D_f10 D_f8 D_f3 D_f11 cF.F, bF⟩
  exact ok_law T cf cc D_f27 D_f28 D_f30 D_f31 D_f32 MC MF D_f26 D_f20 F0
theorem all_fin {P : Program} {w : World} {K : PySem.W.Frag} {h : Heap} {mg : Str → Option Value} {fa : Addr} (X : K.In h) (G : h.Ns mainGlobals mg) (hfa : mg "law" = some (.ref fa)) (T : Txt mg) (cc : ClC K mg) (cf : ClF K mg) (f1 : Fn1 K mg "is_integer" sIsInteger) (f2 : Fn1 K mg "is_in" sIsIn) (f3 : Fn1 K mg "is_list" sIsList) (f4 : Fn1 K mg "is_ascending" sIsAsc) (f5 : Fn1 K mg "is_simplex" sIsSimplex) (f6 : Fn1 K mg "parts_of" sParts) (f7 : Fn1 K mg "generated" sGen) (f8 : Fn1 K mg "in_order" sInOrder) (f9 : Fn1 K mg "maximal" sMax) (f10 : Fn1 K mg "need_complex" sNC) (f11 : Fn1 K mg "is_time" sIsTime) (f12 : Fn1 K mg "need_filtration" sNF) (f13 : Fn1 K mg "own_order" sOO) (f14 : Fn1 K mg "is_bar" sIsBar) (f15 : Fn1 K mg "need_bars" sNB) (f16 : Fn1 K mg "cost" sCost) (f17 : Fn1 K mg "is_near" sNear) (f18 : Fn1 K mg "improved" sImp) (f19 : Fn1 K mg "matched" sMat) (f20 : Fn1 K mg "bottleneck" sBot) (f21 : Fn1 K mg "need_degree" sND) (f22 : Fn1 K mg "masks_of" sMO) (f23 : Fn1 K mg "places_of_pairs" sPP) (f24 : Fn1 K mg "told_pairs" sTP) (f25 : Fn1 K mg "sorted_bars" sSB) (f26 : Fn1 K mg "bars" sBars) (f27 : Fn1 K mg "_law_taken" sTak) (f28 : Fn1 K mg "_law_pick" sPick) (f29 : Fn1 K mg "_law_simplex" sLx) (f30 : Fn1 K mg "_law_simplices" sLS) (f31 : Fn1 K mg "_law_faces" sLF) (f32 : Fn1 K mg "_law_times" sLT) (f33 : Fn1 K mg "law" sLaw) :
    ∃ fd : FuncData, (∀ (s : Shared) (v : Value), BindsTo s fd ⟨[v], []⟩ [("_law_script", v)]) ∧ ∀ base : Heap, K.In base → base.Ns mainGlobals mg → FnOk P w K mg base CX0 31 fa fd ["_law_script"] (spLaw K) := by
  obtain ⟨fd, hb, ok⟩ := all_ok (P := P) (w := w) ⟨T, cc, cf, f1, f2, f3, f4, f5, f6, f7, f8, f9, f10, f11, f12, f13, f14, f15, f16, f17, f18, f19, f20, f21, f22, f23, f24, f25, f26, f27, f28, f29, f30, f31, f32, f33⟩ hfa
  exact ⟨fd, hb, fun base _ _ => ok base⟩
end G98
open PySem PySem.W PyProof.Rows
set_option maxRecDepth 100000 in
set_option maxHeartbeats 0 in
theorem PySem.Challenge.cw_shapeholes_k27_whole_small_changes_holds : PySem.Challenge.rw_shapeholes_k27_whole_small_changes.Holds := by
  w_on; o_law; k_head; (case hw => w_witness2)
  k_fill
  refine L2.walk_of (l := PySem.Challenge.rw_shapeholes_k27_whole_small_changes) (n := 63) (k := 31) (x := "_law_script") (CX := fun _ => L2.CX0) (sp := fun w => G98.spLaw _) rfl (by decide) rfl ⟨rfl, by decide, by decide⟩ (fun w h Y => PySem.W.kIn_of Y) ?F (fun _ _ a ns hl _ hS => ⟨a, ns, rfl, hS, hl, fun _ => rfl⟩) (fun _ _ _ _ _ h => h)
  case F =>
    intro w mg fa h KX G hmg
    refine' G98.all_fin KX G hmg ?T ?cc ?cf ?f1 ?f2 ?f3 ?f4 ?f5 ?f6 ?f7 ?f8 ?f9 ?f10 ?f11 ?f12 ?f13 ?f14 ?f15 ?f16 ?f17 ?f18 ?f19 ?f20 ?f21 ?f22 ?f23 ?f24 ?f25 ?f26 ?f27 ?f28 ?f29 ?f30 ?f31 ?f32 ?f33
    case T =>
      refine' ⟨PySem.W.mg_none_of KX G ?z0, PySem.W.mg_none_of KX G ?z1, PySem.W.mg_none_of KX G ?z2, PySem.W.mg_none_of KX G ?z3, PySem.W.mg_none_of KX G ?z4, PySem.W.mg_none_of KX G ?z5, PySem.W.mg_none_of KX G ?z6, PySem.W.mg_none_of KX G ?z7, PySem.W.mg_none_of KX G ?z8, PySem.W.mg_none_of KX G ?z9, PySem.W.mg_none_of KX G ?z10, PySem.W.mg_none_of KX G ?z11, PySem.W.mg_none_of KX G ?z12, PySem.W.mg_none_of KX G ?z13, PySem.W.mg_none_of KX G ?z14, G98.const_mk KX G ?w0 ?v0, G98.const_mk KX G ?w1 ?v1, G98.const_mk KX G ?w2 ?v2, G98.const_mk KX G ?w3 ?v3, G98.const_mk KX G ?w4 ?v4⟩
      (case z0 => k_is); (case z1 => k_is); (case z2 => k_is); (case z3 => k_is); (case z4 => k_is); (case z5 => k_is); (case z6 => k_is); (case z7 => k_is); (case z8 => k_is); (case z9 => k_is); (case z10 => k_is); (case z11 => k_is); (case z12 => k_is); (case z13 => k_is); (case z14 => k_is); (case w0 => k_is); (case w1 => k_is); (case w2 => k_is); (case w3 => k_is); (case w4 => k_is); (case v0 => exact ⟨_, rfl⟩); (case v1 => exact ⟨_, rfl⟩); (case v2 => exact ⟨_, rfl⟩); (case v3 => exact ⟨_, rfl⟩); (case v4 => exact ⟨_, rfl⟩)
    case cc =>
      refine' ⟨_, _, _, G98.cl1_mk KX G ?aC ?a ?i ?l ?c ?k ?pg ?hd ?po ?sa ?mk ?kc ?ha ?hn ?htk ?hm, ?n0, ?n1⟩
      (case aC => k_is); (case a => k_is); (case i => k_is); (case l => k_is); (case c => k_is); (case k => k_is); (case pg => k_is); (case hd => k_is); (case po => k_is); (case sa => k_is); (case mk => k_is); (case kc => k_is); (case ha => k_is); (case hn => k_is); (case htk => k_is); (case hm => k_is); (case n0 => k_is); (case n1 => k_is)
    case cf =>
      refine' ⟨_, _, _, G98.cl1_mk KX G ?aC ?a ?i ?l ?c ?k ?pg ?hd ?po ?sa ?mk ?kc ?ha ?hn ?htk ?hm, ?n0, ?n1, ?n2⟩
      (case aC => k_is); (case a => k_is); (case i => k_is); (case l => k_is); (case c => k_is); (case k => k_is); (case pg => k_is); (case hd => k_is); (case po => k_is); (case sa => k_is); (case mk => k_is); (case kc => k_is); (case ha => k_is); (case hn => k_is); (case htk => k_is); (case hm => k_is); (case n0 => k_is); (case n1 => k_is); (case n2 => k_is)
    case f1 =>
      refine' G98.fn1_mk KX G ?a ?l ?c ?k
      (case a => k_is); (case l => k_is); (case c => k_is); (case k => k_is)
    case f2 =>
      refine' G98.fn1_mk KX G ?a ?l ?c ?k
      (case a => k_is); (case l => k_is); (case c => k_is); (case k => k_is)
    case f3 =>
      refine' G98.fn1_mk KX G ?a ?l ?c ?k
      (case a => k_is); (case l => k_is); (case c => k_is); (case k => k_is)
    case f4 =>
      refine' G98.fn1_mk KX G ?a ?l ?c ?k
      (case a => k_is); (case l => k_is); (case c => k_is); (case k => k_is)
    case f5 =>
      refine' G98.fn1_mk KX G ?a ?l ?c ?k
      (case a => k_is); (case l => k_is); (case c => k_is); (case k => k_is)
    case f6 =>
      refine' G98.fn1_mk KX G ?a ?l ?c ?k
      (case a => k_is); (case l => k_is); (case c => k_is); (case k => k_is)
    case f7 =>
      refine' G98.fn1_mk KX G ?a ?l ?c ?k
      (case a => k_is); (case l => k_is); (case c => k_is); (case k => k_is)
    case f8 =>
      refine' G98.fn1_mk KX G ?a ?l ?c ?k
      (case a => k_is); (case l => k_is); (case c => k_is); (case k => k_is)
    case f9 =>
      refine' G98.fn1_mk KX G ?a ?l ?c ?k
      (case a => k_is); (case l => k_is); (case c => k_is); (case k => k_is)
    case f10 =>
      refine' G98.fn1_mk KX G ?a ?l ?c ?k
      (case a => k_is); (case l => k_is); (case c => k_is); (case k => k_is)
    case f11 =>
      refine' G98.fn1_mk KX G ?a ?l ?c ?k
      (case a => k_is); (case l => k_is); (case c => k_is); (case k => k_is)
    case f12 =>
      refine' G98.fn1_mk KX G ?a ?l ?c ?k
      (case a => k_is); (case l => k_is); (case c => k_is); (case k => k_is)
    case f13 =>
      refine' G98.fn1_mk KX G ?a ?l ?c ?k
      (case a => k_is); (case l => k_is); (case c => k_is); (case k => k_is)
    case f14 =>
      refine' G98.fn1_mk KX G ?a ?l ?c ?k
      (case a => k_is); (case l => k_is); (case c => k_is); (case k => k_is)
    case f15 =>
      refine' G98.fn1_mk KX G ?a ?l ?c ?k
      (case a => k_is); (case l => k_is); (case c => k_is); (case k => k_is)
    case f16 =>
      refine' G98.fn1_mk KX G ?a ?l ?c ?k
      (case a => k_is); (case l => k_is); (case c => k_is); (case k => k_is)
    case f17 =>
      refine' G98.fn1_mk KX G ?a ?l ?c ?k
      (case a => k_is); (case l => k_is); (case c => k_is); (case k => k_is)
    case f18 =>
      refine' G98.fn1_mk KX G ?a ?l ?c ?k
      (case a => k_is); (case l => k_is); (case c => k_is); (case k => k_is)
    case f19 =>
      refine' G98.fn1_mk KX G ?a ?l ?c ?k
      (case a => k_is); (case l => k_is); (case c => k_is); (case k => k_is)
    case f20 =>
      refine' G98.fn1_mk KX G ?a ?l ?c ?k
      (case a => k_is); (case l => k_is); (case c => k_is); (case k => k_is)
    case f21 =>
      refine' G98.fn1_mk KX G ?a ?l ?c ?k
      (case a => k_is); (case l => k_is); (case c => k_is); (case k => k_is)
    case f22 =>
      refine' G98.fn1_mk KX G ?a ?l ?c ?k
      (case a => k_is); (case l => k_is); (case c => k_is); (case k => k_is)
    case f23 =>
      refine' G98.fn1_mk KX G ?a ?l ?c ?k
      (case a => k_is); (case l => k_is); (case c => k_is); (case k => k_is)
    case f24 =>
      refine' G98.fn1_mk KX G ?a ?l ?c ?k
      (case a => k_is); (case l => k_is); (case c => k_is); (case k => k_is)
    case f25 =>
      refine' G98.fn1_mk KX G ?a ?l ?c ?k
      (case a => k_is); (case l => k_is); (case c => k_is); (case k => k_is)
    case f26 =>
      refine' G98.fn1_mk KX G ?a ?l ?c ?k
      (case a => k_is); (case l => k_is); (case c => k_is); (case k => k_is)
    case f27 =>
      refine' G98.fn1_mk KX G ?a ?l ?c ?k
      (case a => k_is); (case l => k_is); (case c => k_is); (case k => k_is)
    case f28 =>
      refine' G98.fn1_mk KX G ?a ?l ?c ?k
      (case a => k_is); (case l => k_is); (case c => k_is); (case k => k_is)
    case f29 =>
      refine' G98.fn1_mk KX G ?a ?l ?c ?k
      (case a => k_is); (case l => k_is); (case c => k_is); (case k => k_is)
    case f30 =>
      refine' G98.fn1_mk KX G ?a ?l ?c ?k
      (case a => k_is); (case l => k_is); (case c => k_is); (case k => k_is)
    case f31 =>
      refine' G98.fn1_mk KX G ?a ?l ?c ?k
      (case a => k_is); (case l => k_is); (case c => k_is); (case k => k_is)
    case f32 =>
      refine' G98.fn1_mk KX G ?a ?l ?c ?k
      (case a => k_is); (case l => k_is); (case c => k_is); (case k => k_is)
    case f33 =>
      refine' G98.fn1_mk KX G ?a ?l ?c ?k
      (case a => k_is); (case l => k_is); (case c => k_is); (case k => k_is)
