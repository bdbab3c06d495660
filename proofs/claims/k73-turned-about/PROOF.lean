import PyProof.Rows.All
import Wide.All
import OpenK.AllK
import Wide.FinOn
import HandS.ForMost
import HandS.Property
import HandS.Defaults
import HandS.Star
import HandS.Wide
import HandS.DictComp
import HandS.IsInst
import HandS.Strs
import HandS.Walk
import HandS.Evl
import HandS.Zip
import HandS.NoneIn
import HandS.SetFor
import HandS.Conv
import HandS.Remove
import PySem.Challenge.RW_freelots_k73_whole_games_turned_about
import KE.KDictZip
import KE.KDictKeyed
import HandS.Set
import PyProof.Rows.ZipGen
import HandS.More
import KE.KDictCopyH
/-! Closures with exchange, lots that are free, ways of exchanges. Plain Lean, no program. -/
namespace FL
abbrev Cl := (Nat → Prop) → Nat → Prop
structure Clo (C : Cl) : Prop where
  ext : ∀ {S : Nat → Prop} {x : Nat}, S x → C S x
  trans : ∀ {S T : Nat → Prop} {y : Nat}, (∀ x, T x → C S x) → C T y → C S y
  exch : ∀ {S : Nat → Prop} {x y : Nat}, C (fun z => S z ∨ z = x) y → ¬ C S y → C (fun z => S z ∨ z = y) x
section
variable {C : Cl} {S T : Nat → Prop} {x y : Nat}
theorem Clo.mono (h : Clo C) (hs : ∀ x, S x → T x) (c : C S y) : C T y := h.trans (fun x hx => h.ext (hs x hx)) c
def Ind (C : Cl) (S : Nat → Prop) : Prop := ∀ x, S x → ¬ C (fun z => S z ∧ z ≠ x) x
theorem Ind.mono (h : Clo C) (hs : ∀ x, S x → T x) (i : Ind C T) : Ind C S := fun x hx c =>
  i x (hs x hx) (h.mono (fun z ⟨a, b⟩ => ⟨hs z a, b⟩) c)
theorem Ind.add (h : Clo C) (i : Ind C S) (hx : ¬ C S x) : Ind C (fun z => S z ∨ z = x) := by
  intro y hy c
  by_cases e : y = x
  · subst e
    exact hx (h.mono (fun z ⟨a, b⟩ => a.resolve_right b) c)
  · have sy : S y := hy.resolve_right e
    have c1 : C (fun z => (S z ∧ z ≠ y) ∨ z = x) y := h.mono (fun z ⟨a, b⟩ => a.elim (fun q => .inl ⟨q, b⟩) .inr) c
    have c2 := h.exch c1 (i y sy)
    exact hx (h.mono (fun z q => q.elim (fun q => q.1) (fun q => q ▸ sy)) c2)
/-- a closure over kept ones, pulled back along a map -/
def pull (f : Nat → Nat) (C : Cl) (K : Nat → Prop) : Cl := fun S t => C (fun r => K r ∨ ∃ s, S s ∧ f s = r) (f t)
theorem Clo.pull (h : Clo C) (f : Nat → Nat) (K : Nat → Prop) : Clo (pull f C K) where
  ext := fun {S x} hx => h.ext (.inr ⟨x, hx, rfl⟩)
  trans := fun {S T y} hs c => h.trans (T := fun r => K r ∨ ∃ s, T s ∧ f s = r) (fun r hr => by
    rcases hr with hr | ⟨s, hs', rfl⟩
    · exact h.ext (.inl hr)
    · exact hs s hs') c
  exch := fun {S x y} c n => by
    have c1 : C (fun z => (K z ∨ ∃ s, S s ∧ f s = z) ∨ z = f x) (f y) := h.mono (fun z hz => by
      rcases hz with hz | ⟨s, hs | hs, e⟩
      · exact .inl (.inl hz)
      · exact .inl (.inr ⟨s, hs, e⟩)
      · subst hs; exact .inr e.symm) c
    have c2 := h.exch c1 n
    exact h.mono (fun z hz => by
      rcases hz with (hz | ⟨s, hs, e⟩) | hz
      · exact .inl hz
      · exact .inr ⟨s, .inl hs, e⟩
      · exact .inr ⟨y, .inr rfl, hz.symm⟩) c2
/-- over kept ones -/
abbrev ov (C : Cl) (K : Nat → Prop) : Cl := fun S t => C (fun r => K r ∨ S r) t
theorem Clo.ov (h : Clo C) (K : Nat → Prop) : Clo (ov C K) where
  ext := fun {S x} hx => h.ext (.inr hx)
  trans := fun {S T y} hs c => h.trans (T := fun r => K r ∨ T r) (fun r hr => by
    rcases hr with hr | hr
    · exact h.ext (.inl hr)
    · exact hs r hr) c
  exch := fun {S x y} c n => by
    have c1 : C (fun z => (K z ∨ S z) ∨ z = x) y := h.mono (fun z hz => by
      rcases hz with hz | hz | hz
      · exact .inl (.inl hz)
      · exact .inl (.inr hz)
      · exact .inr hz) c
    exact h.mono (fun z hz => by
      rcases hz with (hz | hz) | hz
      · exact .inl hz
      · exact .inr (.inl hz)
      · exact .inr (.inr hz)) (h.exch c1 n)
end
/-! ### ways of exchanges -/
abbrev Lots := Nat → Nat → Prop
/-- the lots behind a way p, the last mover ahead -/
def behind (L : Lots) (p : List (Nat × Nat)) : Lots := fun n x => (L n x ∧ x ∉ p.map (·.1)) ∨ (x, n) ∈ p
structure WayOk (C : Cl) (L : Lots) (p : List (Nat × Nat)) : Prop where
  room : ∀ t n q, p = (t, n) :: q → ¬ C (L n) t
  turn : ∀ a t' n' s m b, p = a ++ (t', n') :: (s, m) :: b → ∃ Z : Nat → Prop, (∀ y, Z y → L m y) ∧ C Z s ∧ ¬ C (fun z => L m z ∧ z ≠ t') s ∧ ∀ x, x ∈ a → ¬ Z x.1
  nd : (p.map (·.1)).Nodup
theorem way_ind {C : Cl} (h : Clo C) : ∀ (p : List (Nat × Nat)) (L : Lots), (∀ n, Ind C (L n)) → WayOk C L p → ∀ n, Ind C (behind L p n)
  | [], L, i, _, n => (i n).mono h fun x hx => by
    rcases hx with hx | hx
    · exact hx.1
    · simp at hx
  | (t, n) :: p, L, i, v, k => by
    have hroom : ¬ C (L n) t := v.room t n p rfl
    have nd : t ∉ p.map (·.1) ∧ (p.map (·.1)).Nodup := by
      have := v.nd
      rw [List.map_cons, List.nodup_cons] at this
      exact this
    let L1 : Lots := fun k x => (L k x ∧ x ≠ t) ∨ (k = n ∧ x = t)
    have i1 : ∀ k, Ind C (L1 k) := fun k => by
      by_cases e : k = n
      · subst e
        exact ((i k).add h hroom).mono h fun x hx => by
          rcases hx with hx | hx
          · exact .inl hx.1
          · exact .inr hx.2
      · exact (i k).mono h fun x hx => by
          rcases hx with hx | hx
          · exact hx.1
          · exact absurd hx.1 e
    have v1 : WayOk C L1 p := by
      refine ⟨fun s m q e c => ?_, fun a t' n' s m b e => ?_, nd.2⟩
      · subst e
        obtain ⟨Z, z1, z2, z3, _⟩ := v.turn [] t n s m q rfl
        have lt : L m t := Classical.byContradiction fun q => z3 (h.mono (fun y hy => ⟨z1 y hy, fun e => q (e ▸ z1 y hy)⟩) z2)
        have hmn : m ≠ n := fun e => hroom (h.ext (e ▸ lt))
        exact z3 (h.mono (fun y hy => by
          rcases hy with hy | hy
          · exact hy
          · exact absurd hy.1 hmn) c)
      · obtain ⟨Z, z1, z2, z3, z4⟩ := v.turn ((t, n) :: a) t' n' s m b (by rw [e]; rfl)
        have zt : ¬ Z t := z4 (t, n) List.mem_cons_self
        refine ⟨Z, fun y hy => .inl ⟨z1 y hy, fun e => zt (e ▸ hy)⟩, z2, fun c => ?_, fun x hx => z4 x (List.mem_cons_of_mem _ hx)⟩
        by_cases hmn : m = n
        · subst hmn
          have c1 : C (fun z => (L m z ∧ z ≠ t') ∨ z = t) s := h.mono (fun z hz => by
            rcases hz.1 with q | q
            · exact .inl ⟨q.1, hz.2⟩
            · exact .inr q.2) c
          have c2 := h.exch c1 z3
          refine hroom (h.trans (fun y hy => ?_) c2)
          rcases hy with hy | hy
          · exact h.ext hy.1
          · subst hy
            exact h.mono z1 z2
        · exact z3 (h.mono (fun z hz => by
            rcases hz.1 with q | q
            · exact ⟨q.1, hz.2⟩
            · exact absurd q.1 hmn) c)
    refine (way_ind h p L1 i1 v1 k).mono h fun x hx => ?_
    rcases hx with ⟨hx, hn⟩ | hx
    · rw [List.map_cons, List.mem_cons] at hn
      exact .inl ⟨.inl ⟨hx, fun e => hn (.inl e)⟩, fun e => hn (.inr e)⟩
    · rcases List.mem_cons.mp hx with e | hx
      · cases e
        exact .inl ⟨.inr ⟨rfl, rfl⟩, nd.1⟩
      · exact .inr hx
/-! ### steps, tight sets -/
def Stp (C : Cl) (S : Nat → Prop) (t : Nat) (Z : List Nat) : Prop :=
  Z.Nodup ∧ ((S t ∧ Z = []) ∨ (¬ S t ∧ (∀ y, y ∈ Z → S y) ∧ C (fun z => z ∈ Z) t ∧ ∀ y, y ∈ Z → ¬ C (fun z => S z ∧ z ≠ y) t))
def Tight (C : Cl) (L : Lots) (R : Nat → Prop) : Prop := ∀ t, R t → ∀ n, n < 2 → C (fun z => R z ∧ L n z) t
section
variable {C : Cl} {S : Nat → Prop} {L : Lots} {R : Nat → Prop} {t : Nat} {Z Z' : List Nat}
theorem Stp.of_mem (s : Stp C S t Z) {y : Nat} (hy : y ∈ Z) : (∀ y, y ∈ Z → S y) ∧ C (fun z => z ∈ Z) t ∧ ∀ y, y ∈ Z → ¬ C (fun z => S z ∧ z ≠ y) t := by
  rcases s.2 with ⟨_, e⟩ | ⟨_, q⟩
  · subst e; simp at hy
  · exact q
theorem Stp.uniq (h : Clo C) (s : Stp C S t Z) (s' : Stp C S t Z') {y : Nat} (hy : y ∈ Z) : y ∈ Z' := by
  obtain ⟨a, b, c⟩ := s.of_mem hy
  rcases s'.2 with ⟨q, _⟩ | ⟨_, a', b', _⟩
  · rcases s.2 with ⟨_, e⟩ | ⟨n, _⟩
    · subst e; simp at hy
    · exact absurd q n
  · exact Classical.byContradiction fun n => c y hy (h.mono (fun z hz => ⟨a' z hz, fun e => n (e ▸ hz)⟩) b')
theorem Stp.inC (h : Clo C) (s : Stp C S t Z) : C S t := by
  rcases s.2 with ⟨q, _⟩ | ⟨_, a, b, _⟩
  · exact h.ext q
  · exact h.mono a b
theorem Tight.step (h : Clo C) (T : Tight C L R) (ht : R t) {n : Nat} (hn : n < 2) (s : Stp C (L n) t Z) {y : Nat} (hy : y ∈ Z) : R y := by
  obtain ⟨a, b, c⟩ := s.of_mem hy
  exact Classical.byContradiction fun ny => c y hy (h.mono (fun z hz => ⟨hz.2, fun e => ny (e ▸ hz.1)⟩) (T t ht n hn))
theorem tight_of_closed (h : Clo C) (c : ∀ t, R t → ∀ n, n < 2 → ∃ Z, Stp C (L n) t Z ∧ ∀ y, y ∈ Z → R y) : Tight C L R := fun t ht n hn => by
  obtain ⟨Z, s, hz⟩ := c t ht n hn
  rcases s.2 with ⟨q, _⟩ | ⟨_, a, b, _⟩
  · exact h.ext ⟨ht, q⟩
  · exact h.mono (fun z m => ⟨hz z m, a z m⟩) b
end
/-! ### going along the web, level by level -/
abbrev Ent := Nat × Option (Nat × Nat)
structure BInv (C : Cl) (L : Lots) (st : Nat) (R : List Ent) (a b : Nat) : Prop where
  nd : (R.map (·.1)).Nodup
  hd : R[0]? = some (st, none)
  no : ∀ (k t : Nat), R[k]? = some (t, none) → k = 0
  lk : ∀ (k t q n : Nat), R[k]? = some (t, some (q, n)) → n < 2 ∧ ∃ (j : Nat) (o : Option (Nat × Nat)), j < k ∧ R[j]? = some (q, o) ∧ (∃ Z, Stp C (L n) q Z ∧ t ∈ Z) ∧
    ∀ (j' s : Nat) (o' : Option (Nat × Nat)), j' < j → R[j']? = some (s, o') → ∀ n', n' < 2 → ∃ Z, Stp C (L n') s Z ∧ t ∉ Z
  dn : ∀ (j s : Nat) (o : Option (Nat × Nat)), R[j]? = some (s, o) → ∀ n, n < 2 → (j < a ∨ j = a ∧ n < b) → ∃ Z, Stp C (L n) s Z ∧ ∀ y, y ∈ Z → y ∈ R.map (·.1)
section
variable {C : Cl} {L : Lots} {st a b : Nat} {R : List Ent}
theorem binv_start : BInv C L st [(st, none)] 0 0 where
  nd := by simp
  hd := rfl
  no := fun k t e => by
    cases k with
    | zero => rfl
    | succ k => simp at e
  lk := fun k t q n e => by
    cases k with
    | zero => simp at e
    | succ k => simp at e
  dn := fun j s o e n hn h => by omega
theorem BInv.next (I : BInv C L st R a 2) : BInv C L st R (a + 1) 0 := ⟨I.nd, I.hd, I.no, I.lk, fun j s o e n hn h => I.dn j s o e n hn (by omega)⟩
theorem ent_split {R F : List Ent} {k : Nat} {e : Ent} (h : (R ++ F)[k]? = some e) : (k < R.length ∧ R[k]? = some e) ∨ (R.length ≤ k ∧ e ∈ F) := by
  by_cases hk : k < R.length
  · rw [List.getElem?_append_left hk] at h
    exact .inl ⟨hk, h⟩
  · have hk : R.length ≤ k := by omega
    rw [List.getElem?_append_right hk] at h
    exact .inr ⟨hk, List.mem_of_getElem? h⟩
theorem BInv.step {q b : Nat} {o : Option (Nat × Nat)} {Z : List Nat} (I : BInv C L st R a b) (hq : R[a]? = some (q, o)) (hb : b < 2) (s : Stp C (L b) q Z) :
    BInv C L st (R ++ (Z.filter fun z => !decide (z ∈ R.map (·.1))).map fun z => (z, some (q, b))) a (b + 1) := by
  have hlt : a < R.length := (List.getElem?_eq_some_iff.mp hq).1
  have mf : ∀ z, z ∈ (Z.filter fun z => !decide (z ∈ R.map (·.1))) ↔ z ∈ Z ∧ z ∉ R.map (·.1) := fun z => by simp
  have nf : (((Z.filter fun z => !decide (z ∈ R.map (·.1))).map fun z => ((z, some (q, b)) : Ent)).map (·.1)) = (Z.filter fun z => !decide (z ∈ R.map (·.1))) := by
    rw [List.map_map]
    exact List.map_id _
  have keep : ∀ (k : Nat) (e : Ent), k < R.length → (R ++ (Z.filter fun z => !decide (z ∈ R.map (·.1))).map fun z => ((z, some (q, b)) : Ent))[k]? = some e → R[k]? = some e := fun k e hk h => by
    rw [List.getElem?_append_left hk] at h
    exact h
  have up : ∀ (k : Nat) (e : Ent), R[k]? = some e → (R ++ (Z.filter fun z => !decide (z ∈ R.map (·.1))).map fun z => ((z, some (q, b)) : Ent))[k]? = some e := fun k e h => by
    rw [List.getElem?_append_left (List.getElem?_eq_some_iff.mp h).1]
    exact h
  refine ⟨?_, up _ _ I.hd, fun k t e => ?_, fun k t q' n e => ?_, fun j s' o' e n hn hc => ?_⟩
  · rw [List.map_append, nf]
    refine List.nodup_append.mpr ⟨I.nd, s.1.filter _, fun x hx y hy e => ?_⟩
    subst e
    exact ((mf x).mp hy).2 hx
  · rcases ent_split e with ⟨_, e⟩ | ⟨_, e⟩
    · exact I.no k t e
    · obtain ⟨z, _, e2⟩ := List.mem_map.mp e
      injection e2 with _ e3
      cases e3
  · rcases ent_split e with ⟨_, e⟩ | ⟨hk, e⟩
    · obtain ⟨hn, j, o1, hj, hr, hz, hw⟩ := I.lk k t q' n e
      exact ⟨hn, j, o1, hj, up _ _ hr, hz, fun j' s1 o2 hj' e' => hw j' s1 o2 hj' (keep _ _ (by have := (List.getElem?_eq_some_iff.mp hr).1; omega) e')⟩
    · obtain ⟨z, hz, e2⟩ := List.mem_map.mp e
      injection e2 with e3 e4
      injection e4 with e4
      injection e4 with e5 e6
      subst e3 e5 e6
      obtain ⟨hz1, hz2⟩ := (mf z).mp hz
      refine ⟨hb, a, o, by omega, up _ _ hq, ⟨Z, s, hz1⟩, fun j' s1 o2 hj' e' n' hn' => ?_⟩
      obtain ⟨Z', s', hs'⟩ := I.dn j' s1 o2 (keep _ _ (by omega) e') n' hn' (.inl hj')
      exact ⟨Z', s', fun m => hz2 (hs' z m)⟩
  · have hmem : ∀ y, y ∈ R.map (·.1) → y ∈ (R ++ (Z.filter fun z => !decide (z ∈ R.map (·.1))).map fun z => ((z, some (q, b)) : Ent)).map (·.1) := fun y hy => by
      rw [List.map_append]
      exact List.mem_append_left _ hy
    have hjl : j < R.length := by omega
    replace e := keep _ _ hjl e
    by_cases hc2 : j < a ∨ j = a ∧ n < b
    · obtain ⟨Z', s', hs'⟩ := I.dn j s' o' e n hn hc2
      exact ⟨Z', s', fun y hy => hmem y (hs' y hy)⟩
    · have hja : j = a := by omega
      have hnb : n = b := by omega
      subst hja hnb
      rw [hq] at e
      cases e
      refine ⟨Z, s, fun y hy => ?_⟩
      rw [List.map_append, nf]
      by_cases hm : y ∈ R.map (·.1)
      · exact List.mem_append_left _ hm
      · exact List.mem_append_right _ ((mf y).mpr ⟨hy, hm⟩)
theorem BInv.tight (h : Clo C) (I : BInv C L st R R.length 0) : Tight C L fun t => t ∈ R.map (·.1) := by
  refine tight_of_closed h fun t ht n hn => ?_
  obtain ⟨⟨s, o⟩, he, e⟩ := List.mem_map.mp ht
  obtain ⟨j, hj⟩ := List.getElem?_of_mem he
  have e' : s = t := e
  subst e'
  exact I.dn j s o hj n hn (.inl (List.getElem?_eq_some_iff.mp hj).1)
/-- whoever is reached from within a tight set lies in it -/
theorem BInv.within (h : Clo C) (I : BInv C L st R a b) {D : Nat → Prop} (T : Tight C L D) (hs : D st) : ∀ (k t : Nat) (o : Option (Nat × Nat)), R[k]? = some (t, o) → D t := by
  intro k
  induction k using Nat.strongRecOn with
  | _ k ih =>
    intro t o e
    cases o with
    | none =>
      have hk := I.no k t e
      subst hk
      rw [I.hd] at e
      cases e
      exact hs
    | some qn =>
      obtain ⟨q, n⟩ := qn
      obtain ⟨hn, j, o, hj, hr, ⟨Z, s, hz⟩, _⟩ := I.lk k t q n e
      exact T.step h (ih j hj q o hr) hn s hz
theorem nd_at {R : List Ent} (nd : (R.map (·.1)).Nodup) {i j t : Nat} {o o' : Option (Nat × Nat)} (hi : R[i]? = some (t, o)) (hj : R[j]? = some (t, o')) : i = j := by
  have li := (List.getElem?_eq_some_iff.mp hi).1
  have e1 : (R.map (·.1))[i]? = some t := by rw [List.getElem?_map, hi]; rfl
  have e2 : (R.map (·.1))[j]? = some t := by rw [List.getElem?_map, hj]; rfl
  exact (List.getElem?_inj (by rw [List.length_map]; exact li) nd).mp (e1.trans e2.symm)
/-- the way back from whom is reached -/
structure Back (C : Cl) (L : Lots) (R : List Ent) (p : List (Nat × Nat)) : Prop where
  nd : (p.map (·.1)).Nodup
  turn : ∀ a t' n' s m b, p = a ++ (t', n') :: (s, m) :: b → (t', some (s, m)) ∈ R ∧ m < 2 ∧ ∃ Z, Stp C (L m) s Z ∧ t' ∈ Z ∧ ∀ x, x ∈ a → x.1 ∉ Z
  last : ∀ a t n, p = a ++ [(t, n)] → (t, none) ∈ R
theorem BInv.back (h : Clo C) (I : BInv C L st R a b) : ∀ (k t n : Nat) (o : Option (Nat × Nat)), R[k]? = some (t, o) → ∃ rest, Back C L R ((t, n) :: rest) ∧ ∀ m, m ∈ rest → m.2 < 2 ∧ ∃ (j : Nat) (o' : Option (Nat × Nat)), j < k ∧ R[j]? = some (m.1, o') := by
  intro k
  induction k using Nat.strongRecOn with
  | _ k ih =>
    intro t n o e
    cases o with
    | none =>
      refine ⟨[], ⟨by simp, fun a t' n' s m b q => ?_, fun a t1 n1 q => ?_⟩, fun m hm => by simp at hm⟩
      · have := congrArg List.length q
        simp at this
        omega
      · cases a with
        | nil =>
          cases q
          exact List.mem_of_getElem? e
        | cons x a =>
          have := congrArg List.length q
          simp at this
    | some qn =>
      obtain ⟨q, n1⟩ := qn
      obtain ⟨hn1, j, o, hj, hr, ⟨Z, s, hz⟩, hw⟩ := I.lk k t q n1 e
      obtain ⟨rest, B, hrest⟩ := ih j hj q n1 o hr
      have hall : ∀ m, m ∈ (q, n1) :: rest → m.2 < 2 ∧ ∃ (j : Nat) (o' : Option (Nat × Nat)), j < k ∧ R[j]? = some (m.1, o') := fun m hm => by
        rcases List.mem_cons.mp hm with rfl | hm
        · exact ⟨hn1, j, o, hj, hr⟩
        · obtain ⟨h2, j', o', hj', hr'⟩ := hrest m hm
          exact ⟨h2, j', o', by omega, hr'⟩
      refine ⟨(q, n1) :: rest, ⟨?_, fun a t' n' s' m b eq => ?_, fun a t1 n2 eq => ?_⟩, hall⟩
      · rw [List.map_cons, List.nodup_cons]
        refine ⟨fun hm => ?_, B.nd⟩
        obtain ⟨m, hm, em⟩ := List.mem_map.mp hm
        obtain ⟨_, j', o', hj', hr'⟩ := hall m hm
        have em : m.1 = t := em
        rw [em] at hr'
        have := nd_at I.nd e hr'
        omega
      · cases a with
        | nil =>
          injection eq with e1 e2
          injection e2 with e2 e3
          cases e1
          cases e2
          exact ⟨List.mem_of_getElem? e, hn1, Z, s, hz, fun x hx => by simp at hx⟩
        | cons y a =>
          injection eq with e1 e2
          obtain ⟨h1, h2, Z', s2, hz', ha⟩ := B.turn a t' n' s' m b e2
          refine ⟨h1, h2, Z', s2, hz', fun x hx => ?_⟩
          rcases List.mem_cons.mp hx with rfl | hx
          · cases e1
            -- s' stands ahead of q
            have hs' : (s', m) ∈ rest := by
              cases a with
              | nil =>
                injection e2 with _ e3
                rw [e3]
                exact List.mem_cons_self
              | cons y a =>
                injection e2 with _ e3
                rw [e3]
                exact List.mem_append_right _ (List.mem_cons_of_mem _ List.mem_cons_self)
            obtain ⟨_, j', o', hj', hr'⟩ := hrest _ hs'
            obtain ⟨Z2, s3, hz2⟩ := hw j' s' o' hj' hr' m h2
            exact fun hm => hz2 (s2.uniq h s3 hm)
          · exact ha x hx
      · cases a with
        | nil =>
          have := congrArg List.length eq
          simp at this
        | cons y a =>
          injection eq with e1 e2
          exact B.last a t1 n2 e2
theorem Back.way {p : List (Nat × Nat)} (B : Back C L R p) (hroom : ∀ t n q, p = (t, n) :: q → ¬ C (L n) t) : WayOk C L p := by
  refine ⟨hroom, fun a t' n' s m b e => ?_, B.nd⟩
  obtain ⟨_, _, Z, st, hz, ha⟩ := B.turn a t' n' s m b e
  obtain ⟨z1, z2, z3⟩ := st.of_mem hz
  exact ⟨fun z => z ∈ Z, z1, z2, z3 t' hz, ha⟩
end
end FL
/-! Augmenting at the level of propositions; the game about a goal (Lehman). Plain Lean, no program. -/
namespace FL
section
variable {C : Cl} {L : Lots} {st : Nat}
/-- an independent finite lot: whoever is made of X and it, is made of X, or has one in it that is needed -/
theorem needed (h : Clo C) {X : Nat → Prop} {J : List Nat} {y : Nat} (i : ∀ z, z ∈ J → ¬ C (fun r => X r ∨ (r ∈ J ∧ r ≠ z)) z) (c : C (fun r => X r ∨ r ∈ J) y) : C X y ∨ ∃ z, z ∈ J ∧ ¬ C (fun r => X r ∨ (r ∈ J ∧ r ≠ z)) y := by
  by_cases q : ∃ z, z ∈ J ∧ ¬ C (fun r => X r ∨ (r ∈ J ∧ r ≠ z)) y
  · exact .inr q
  refine .inl ?_
  have all : ∀ z, z ∈ J → C (fun r => X r ∨ (r ∈ J ∧ r ≠ z)) y := fun z hz => Classical.byContradiction fun n => q ⟨z, hz, n⟩
  have key : ∀ A : List Nat, (∀ a, a ∈ A → a ∈ J) → C (fun r => X r ∨ (r ∈ J ∧ r ∉ A)) y := by
    intro A
    induction A with
    | nil =>
      intro _
      exact h.mono (fun r hr => hr.imp id fun m => ⟨m, by simp⟩) c
    | cons z A ih =>
      intro hA
      have hz : z ∈ J := hA z List.mem_cons_self
      have c0 := ih fun a ha => hA a (List.mem_cons_of_mem _ ha)
      refine Classical.byContradiction fun n => ?_
      have c1 : C (fun r => (X r ∨ (r ∈ J ∧ r ∉ z :: A)) ∨ r = z) y := h.mono (fun r hr => by
        rcases hr with hr | ⟨hr, na⟩
        · exact .inl (.inl hr)
        · by_cases e : r = z
          · exact .inr e
          · exact .inl (.inr ⟨hr, by simp [e, na]⟩)) c0
      have c2 := h.exch c1 n
      refine i z hz (h.trans (fun r hr => ?_) c2)
      rcases hr with (hr | ⟨hr, na⟩) | hr
      · exact h.ext (.inl hr)
      · exact h.ext (.inr ⟨hr, fun e => na (by simp [e])⟩)
      · subst hr
        exact all z hz
  exact h.mono (fun r hr => hr.elim id fun ⟨a, b⟩ => absurd a b) (key J fun a ha => ha)
/-- a step is there for everybody, the lot being free and finite -/
theorem stp_ex (h : Clo C) {J : List Nat} (nd : J.Nodup) (i : Ind C fun z => z ∈ J) {t : Nat} (c : C (fun z => z ∈ J) t) : ∃ Z, Stp C (fun z => z ∈ J) t Z := by
  by_cases ht : t ∈ J
  · exact ⟨[], List.nodup_nil, .inl ⟨ht, rfl⟩⟩
  -- take away what is not needed
  have key : ∀ (k : Nat) (A : List Nat), A.length = k → A.Nodup → (∀ a, a ∈ A → a ∈ J) → C (fun z => z ∈ A) t → ∃ Z : List Nat, Z.Nodup ∧ (∀ z, z ∈ Z → z ∈ J) ∧ C (fun z => z ∈ Z) t ∧ ∀ y, y ∈ Z → ¬ C (fun z => z ∈ Z ∧ z ≠ y) t := by
    intro k
    induction k with
    | zero =>
      intro A hA nA sA cA
      have e : A = [] := List.eq_nil_of_length_eq_zero hA
      subst e
      exact ⟨[], List.nodup_nil, fun z hz => by simp at hz, cA, fun y hy => by simp at hy⟩
    | succ k ih =>
      intro A hA nA sA cA
      by_cases q : ∃ y, y ∈ A ∧ C (fun z => z ∈ A ∧ z ≠ y) t
      · obtain ⟨y, hy, cy⟩ := q
        refine ih (A.erase y) (by rw [List.length_erase_of_mem hy]; omega) (nA.erase y) (fun a ha => sA a (List.mem_of_mem_erase ha)) (h.mono (fun z hz => ?_) cy)
        exact (List.mem_erase_of_ne hz.2).mpr hz.1
      · exact ⟨A, nA, sA, cA, fun y hy cy => q ⟨y, hy, cy⟩⟩
  obtain ⟨Z, nZ, sZ, cZ, mZ⟩ := key J.length J rfl nd (fun a ha => ha) c
  refine ⟨Z, nZ, .inr ⟨ht, sZ, cZ, fun y hy cy => ?_⟩⟩
  -- y is made of J without it: through t
  have c1 : C (fun z => (z ∈ Z ∧ z ≠ y) ∨ z = y) t := h.mono (fun z hz => by
    by_cases e : z = y
    · exact .inr e
    · exact .inl ⟨hz, e⟩) cZ
  have c2 := h.exch c1 (mZ y hy)
  refine i y (sZ y hy) (h.trans (fun z hz => ?_) c2)
  rcases hz with hz | hz
  · exact h.ext ⟨sZ z hz.1, hz.2⟩
  · subst hz
    exact cy
/-- either the lots can take one more, or it lies in a tight set of what is in the lots and itself -/
theorem augment (h : Clo C) {J : Nat → List Nat} (nd : ∀ n, (J n).Nodup) (i : ∀ n, Ind C fun z => z ∈ J n) (out : ∀ n, n < 2 → st ∉ J n) :
    (∃ p : List (Nat × Nat), WayOk C (fun n x => x ∈ J n) p ∧ (∀ x n, (x, n) ∈ p → n < 2 ∧ (x = st ∨ ∃ m, m < 2 ∧ x ∈ J m)) ∧ st ∈ p.map (·.1)) ∨
    ∃ R : Nat → Prop, Tight C (fun n x => x ∈ J n) R ∧ R st ∧ ∀ x, R x → x = st ∨ ∃ m, m < 2 ∧ x ∈ J m := by
  let L : Lots := fun n x => x ∈ J n
  let U : List Nat := st :: (J 0 ++ J 1)
  have memU : ∀ x n, n < 2 → x ∈ J n → x ∈ U := fun x n hn hx => by
    match n, hn with
    | 0, _ => exact List.mem_cons_of_mem _ (List.mem_append_left _ hx)
    | 1, _ => exact List.mem_cons_of_mem _ (List.mem_append_right _ hx)
  have ofU : ∀ x, x ∈ U → x = st ∨ ∃ m, m < 2 ∧ x ∈ J m := fun x hx => by
    rcases List.mem_cons.mp hx with e | hx
    · exact .inl e
    · rcases List.mem_append.mp hx with hx | hx
      · exact .inr ⟨0, by omega, hx⟩
      · exact .inr ⟨1, by omega, hx⟩
  have ndU : ∀ R : List Ent, (R.map (·.1)).Nodup → (∀ x, x ∈ R.map (·.1) → x ∈ U) → R.length ≤ U.length := fun R nR sR => by
    have := nR.length_le_of_subset (l₂ := U) (fun x hx => sR x hx)
    rwa [List.length_map] at this
  have run : ∀ (k : Nat) (R : List Ent) (a b : Nat), 3 * (U.length - a) + (2 - b) = k → b ≤ 2 → a ≤ R.length → BInv C L st R a b → (∀ x, x ∈ R.map (·.1) → x ∈ U) →
      (∃ (R : List Ent) (a b j t n : Nat) (o : Option (Nat × Nat)), BInv C L st R a b ∧ R[j]? = some (t, o) ∧ n < 2 ∧ ¬ C (L n) t ∧ ∀ x, x ∈ R.map (·.1) → x ∈ U) ∨ ∃ R : List Ent, BInv C L st R R.length 0 ∧ ∀ x, x ∈ R.map (·.1) → x ∈ U := by
    intro k
    induction k using Nat.strongRecOn with
    | _ k ih =>
      intro R a b ek hb ha I sR
      have hlen := ndU R I.nd sR
      by_cases hal : a = R.length
      · by_cases hb0 : b = 0
        · subst hal hb0
          exact .inr ⟨R, I, sR⟩
        · -- nothing is there at a: the same with b = 0
          subst hal
          refine .inr ⟨R, ⟨I.nd, I.hd, I.no, I.lk, fun j s o e n hn hc => I.dn j s o e n hn (by omega)⟩, sR⟩
      · have hlt : a < R.length := by omega
        by_cases hb2 : b = 2
        · subst hb2
          exact ih _ (by omega) R (a + 1) 0 rfl (by omega) (by omega) I.next sR
        · have hb' : b < 2 := by omega
          obtain ⟨⟨q, o⟩, hq⟩ : ∃ e, R[a]? = some e := ⟨R[a], List.getElem?_eq_getElem hlt⟩
          by_cases hc : C (L b) q
          · obtain ⟨Z, s⟩ := stp_ex h (nd b) (i b) hc
            refine ih _ (by omega) _ a (b + 1) rfl (by omega) (by rw [List.length_append]; omega) (I.step hq hb' s) fun x hx => ?_
            rw [List.map_append, List.mem_append] at hx
            rcases hx with hx | hx
            · exact sR x hx
            · rw [List.map_map] at hx
              obtain ⟨z, hz, ez⟩ := List.mem_map.mp hx
              have ez : z = x := ez
              subst ez
              have hzZ := (List.mem_filter.mp hz).1
              exact memU z b hb' ((s.of_mem hzZ).1 z hzZ)
          · exact .inl ⟨R, a, b, a, q, b, o, I, hq, hb', hc, sR⟩
  rcases run _ [(st, none)] 0 0 rfl (by omega) (by simp) binv_start (fun x hx => by
    have hx : x ∈ [st] := hx
    rw [List.mem_singleton] at hx
    subst hx
    exact List.mem_cons_self) with ⟨R, a, b, j, t, n, o, I, hr, hn, hc, sR⟩ | ⟨R, I, sR⟩
  · obtain ⟨rest, B, hrest⟩ := I.back h j t n o hr
    refine .inl ⟨(t, n) :: rest, B.way (fun t' n' q e => ?_), fun x m hm => ?_, ?_⟩
    · injection e with e1 e2
      cases e1
      exact hc
    · rcases List.mem_cons.mp hm with e | hm
      · cases e
        exact ⟨hn, ofU _ (sR _ (List.mem_map.mpr ⟨_, List.mem_of_getElem? hr, rfl⟩))⟩
      · obtain ⟨h2, j', o', _, hr'⟩ := hrest _ hm
        exact ⟨h2, ofU _ (sR _ (List.mem_map.mpr ⟨_, List.mem_of_getElem? hr', rfl⟩))⟩
    · -- the last of the way is the start
      obtain ⟨y, m, e⟩ : ∃ y m, (t, n) :: rest = y ++ [m] := by
        rcases List.eq_nil_or_concat ((t, n) :: rest) with e | ⟨y, m, e⟩
        · cases e
        · exact ⟨y, m, by rw [e, List.concat_eq_append]⟩
      obtain ⟨s, m2⟩ := m
      have hl := B.last y s m2 e
      obtain ⟨k, hk⟩ := List.getElem?_of_mem hl
      have hk0 := I.no k s hk
      subst hk0
      rw [I.hd] at hk
      cases hk
      rw [e]
      simp
  · refine .inr ⟨fun x => x ∈ R.map (·.1), I.tight h, ?_, fun x hx => ofU x (sR x hx)⟩
    exact List.mem_map.mpr ⟨_, List.mem_of_getElem? I.hd, rfl⟩
end
end FL
/-! The game about a goal: who wins (Lehman). Plain Lean, no program. -/
namespace FL
/-- the keeping hand can win: K kept, F free, h: it is its turn; at most n turns -/
def Win (C : Cl) (g : Nat) : Nat → (Nat → Prop) → (Nat → Prop) → Bool → Prop
  | 0, K, _, _ => C K g
  | n + 1, K, F, true => C K g ∨ ∃ y, F y ∧ Win C g n (fun z => K z ∨ z = y) (fun z => F z ∧ z ≠ y) false
  | n + 1, K, F, false => C K g ∨ ((∃ x, F x) ∧ ∀ x, F x → Win C g n K (fun z => F z ∧ z ≠ x) true)
/-- at most n are in F -/
def AtMost (F : Nat → Prop) (n : Nat) : Prop := ∃ l : List Nat, l.length ≤ n ∧ ∀ x, F x → x ∈ l
theorem AtMost.less {F : Nat → Prop} {n x : Nat} (h : AtMost F (n + 1)) (hx : F x) : AtMost (fun z => F z ∧ z ≠ x) n := by
  obtain ⟨l, hl, hm⟩ := h
  refine ⟨l.erase x, ?_, fun z hz => (List.mem_erase_of_ne hz.2).mpr (hm z hz.1)⟩
  have := List.length_erase_of_mem (hm x hx)
  omega
theorem AtMost.zero {F : Nat → Prop} (h : AtMost F 0) : ∀ x, ¬ F x := by
  obtain ⟨l, hl, hm⟩ := h
  intro x hx
  have e : l = [] := List.eq_nil_of_length_eq_zero (by omega)
  have := hm x hx
  rw [e] at this
  simp at this
section
variable {C : Cl} {g : Nat}
theorem win_congr (h : Clo C) : ∀ (n : Nat) {K K' F F' : Nat → Prop} {b : Bool}, (∀ x, K x ↔ K' x) → (∀ x, F x ↔ F' x) → Win C g n K F b → Win C g n K' F' b
  | 0, K, K', F, F', b, hk, _, w => by
    have w : C K g := w
    exact (show C K' g from h.mono (fun x hx => (hk x).mp hx) w)
  | n + 1, K, K', F, F', true, hk, hf, w => by
    rcases (show C K g ∨ ∃ y, F y ∧ Win C g n (fun z => K z ∨ z = y) (fun z => F z ∧ z ≠ y) false from w) with w | ⟨y, hy, w⟩
    · exact .inl (h.mono (fun x hx => (hk x).mp hx) w)
    · exact .inr ⟨y, (hf y).mp hy, win_congr h n (fun x => by rw [hk x]) (fun x => by rw [hf x]) w⟩
  | n + 1, K, K', F, F', false, hk, hf, w => by
    rcases (show C K g ∨ ((∃ x, F x) ∧ ∀ x, F x → Win C g n K (fun z => F z ∧ z ≠ x) true) from w) with w | ⟨⟨x, hx⟩, w⟩
    · exact .inl (h.mono (fun x hx => (hk x).mp hx) w)
    · exact .inr ⟨⟨x, (hf x).mp hx⟩, fun y hy => win_congr h n hk (fun x => by rw [hf x]) (w y ((hf y).mpr hy))⟩
/-- who cannot make the goal with all that is free does not win -/
theorem win_lost (h : Clo C) : ∀ (n : Nat) {K F : Nat → Prop} {b : Bool}, ¬ C (fun z => K z ∨ F z) g → ¬ Win C g n K F b
  | 0, K, F, b, q, w => q (h.mono (fun x hx => .inl hx) (show C K g from w))
  | n + 1, K, F, true, q, w => by
    rcases (show C K g ∨ ∃ y, F y ∧ Win C g n (fun z => K z ∨ z = y) (fun z => F z ∧ z ≠ y) false from w) with w | ⟨y, hy, w⟩
    · exact q (h.mono (fun x hx => .inl hx) w)
    · refine win_lost h n (fun c => q (h.mono (fun x hx => ?_) c)) w
      rcases hx with (hx | hx) | hx
      · exact .inl hx
      · subst hx; exact .inr hy
      · exact .inr hx.1
  | n + 1, K, F, false, q, w => by
    rcases (show C K g ∨ ((∃ x, F x) ∧ ∀ x, F x → Win C g n K (fun z => F z ∧ z ≠ x) true) from w) with w | ⟨⟨x, hx⟩, w⟩
    · exact q (h.mono (fun x hx => .inl hx) w)
    · refine win_lost h n (fun c => q (h.mono (fun x hx => ?_) c)) (w x hx)
      rcases hx with hx | hx
      · exact .inl hx
      · exact .inr hx.1
theorem win_made (n : Nat) {K F : Nat → Prop} {b : Bool} (c : C K g) : Win C g n K F b := by
  cases n with
  | zero => exact c
  | succ n =>
    cases b with
    | false => exact .inl c
    | true => exact .inl c
/-- two lots that span the same, the goal too: the keeping hand wins, the cutting one first -/
theorem win_hold (h : Clo C) : ∀ (n : Nat) {K F A B : Nat → Prop}, AtMost F n → (∀ x, A x → F x) → (∀ x, B x → F x) → (∀ x, A x → ¬ B x) →
    C (fun z => K z ∨ A z) g → (∀ b, B b → C (fun z => K z ∨ A z) b) → (∀ a, A a → C (fun z => K z ∨ B z) a) → Win C g n K F false := by
  intro n
  induction n using Nat.strongRecOn with
  | _ n ih =>
    intro K F A B am hA hB dj cg cB cA
    by_cases ck : C K g
    · exact win_made n ck
    -- there is one in A
    obtain ⟨a0, ha0⟩ : ∃ a, A a := Classical.byContradiction fun q => ck (h.mono (fun x hx => hx.elim id fun hx => absurd ⟨x, hx⟩ q) cg)
    cases n with
    | zero => exact absurd (hA a0 ha0) (am.zero a0)
    | succ n =>
      -- keep y, over the rest
      have go : ∀ (x y : Nat) (A' B' : Nat → Prop), F x → F y → y ≠ x → (∀ z, A' z → F z ∧ z ≠ x ∧ z ≠ y) → (∀ z, B' z → F z ∧ z ≠ x ∧ z ≠ y) → (∀ z, A' z → ¬ B' z) →
          C (fun z => (K z ∨ z = y) ∨ A' z) g → (∀ b, B' b → C (fun z => (K z ∨ z = y) ∨ A' z) b) → (∀ a, A' a → C (fun z => (K z ∨ z = y) ∨ B' z) a) → Win C g n K (fun z => F z ∧ z ≠ x) true := by
        intro x y A' B' hx hy hyx hA' hB' dj' cg' cB' cA'
        have am1 := am.less hx
        cases n with
        | zero => exact absurd ⟨hy, hyx⟩ (am1.zero y)
        | succ n =>
          refine .inr ⟨y, ⟨hy, hyx⟩, ih n (by omega) (am1.less (x := y) ⟨hy, hyx⟩) (fun z hz => ?_) (fun z hz => ?_) dj' cg' cB' cA'⟩
          · obtain ⟨a, b, c⟩ := hA' z hz
            exact ⟨⟨a, b⟩, c⟩
          · obtain ⟨a, b, c⟩ := hB' z hz
            exact ⟨⟨a, b⟩, c⟩
      -- the two lots without x: still spanning, y any of the one
      have idle : ∀ (x : Nat) (A B : Nat → Prop), F x → (∀ z, A z → F z ∧ z ≠ x) → (∀ z, B z → F z ∧ z ≠ x) → (∀ z, A z → ¬ B z) → C (fun z => K z ∨ A z) g → (∀ b, B b → C (fun z => K z ∨ A z) b) → (∀ a, A a → C (fun z => K z ∨ B z) a) → Win C g n K (fun z => F z ∧ z ≠ x) true := by
        intro x A B hx hA hB dj cg cB cA
        obtain ⟨y, hy⟩ : ∃ a, A a := Classical.byContradiction fun q => ck (h.mono (fun x hx => hx.elim id fun hx => absurd ⟨x, hx⟩ q) cg)
        have eA : ∀ z, (K z ∨ A z) → ((K z ∨ z = y) ∨ (A z ∧ z ≠ y)) := fun z hz => by
          by_cases e : z = y
          · exact .inl (.inr e)
          · exact hz.elim (fun q => .inl (.inl q)) fun q => .inr ⟨q, e⟩
        refine go x y (fun z => A z ∧ z ≠ y) B hx (hA y hy).1 (hA y hy).2 (fun z hz => ⟨(hA z hz.1).1, (hA z hz.1).2, hz.2⟩) (fun z hz => ⟨(hB z hz).1, (hB z hz).2, fun e => dj y hy (e ▸ hz)⟩) (fun z hz => dj z hz.1)
          (h.mono eA cg) (fun b hb => h.mono eA (cB b hb)) fun a ha => h.mono (fun z hz => hz.elim (fun q => .inl (.inl q)) .inr) (cA a ha.1)
      -- x in the one lot
      have hit : ∀ (x : Nat) (A B : Nat → Prop), A x → (∀ z, A z → F z) → (∀ z, B z → F z) → (∀ z, A z → ¬ B z) → C (fun z => K z ∨ A z) g → (∀ b, B b → C (fun z => K z ∨ A z) b) → (∀ a, A a → C (fun z => K z ∨ B z) a) → Win C g n K (fun z => F z ∧ z ≠ x) true := by
        intro x A B hxA hA hB dj cg cB cA
        have toA : ∀ (Y : Nat → Prop), (∀ z, K z → C Y z) → (∀ z, A z → z ≠ x → C Y z) → C Y x → ∀ b, C (fun z => K z ∨ A z) b → C Y b := fun Y y1 y2 y3 b c => h.trans (fun z hz => by
          rcases hz with hz | hz
          · exact y1 z hz
          · by_cases e : z = x
            · subst e; exact y3
            · exact y2 z hz e) c
        by_cases cx : C (fun z => K z ∨ (A z ∧ z ≠ x)) x
        · have t := toA (fun z => K z ∨ (A z ∧ z ≠ x)) (fun z hz => h.ext (.inl hz)) (fun z hz e => h.ext (.inr ⟨hz, e⟩)) cx
          exact idle x (fun z => A z ∧ z ≠ x) B (hA x hxA) (fun z hz => ⟨hA z hz.1, hz.2⟩) (fun z hz => ⟨hB z hz, fun e => dj x hxA (e ▸ hz)⟩) (fun z hz => dj z hz.1) (t g cg) (fun b hb => t b (cB b hb)) fun a ha => cA a ha.1
        · -- one of B that is not made of the rest
          obtain ⟨y, hyB, hy⟩ : ∃ y, B y ∧ ¬ C (fun z => K z ∨ (A z ∧ z ≠ x)) y := Classical.byContradiction fun q => cx (h.trans (fun z hz => by
            rcases hz with hz | hz
            · exact h.ext (.inl hz)
            · exact Classical.byContradiction fun n => q ⟨z, hz, n⟩) (cA x hxA))
          have c1 : C (fun z => (K z ∨ (A z ∧ z ≠ x)) ∨ z = x) y := h.mono (fun z hz => by
            by_cases e : z = x
            · exact .inr e
            · exact .inl (hz.imp id fun q => ⟨q, e⟩)) (cB y hyB)
          have c2 := h.exch c1 hy
          have nyx : y ≠ x := fun e => dj x hxA (e ▸ hyB)
          have t := toA (fun z => (K z ∨ z = y) ∨ (A z ∧ z ≠ x)) (fun z hz => h.ext (.inl (.inl hz))) (fun z hz e => h.ext (.inr ⟨hz, e⟩)) (h.mono (fun z hz => by
            rcases hz with (hz | hz) | hz
            · exact .inl (.inl hz)
            · exact .inr hz
            · exact .inl (.inr hz)) c2)
          refine go x y (fun z => A z ∧ z ≠ x) (fun z => B z ∧ z ≠ y) (hA x hxA) (hB y hyB) nyx (fun z hz => ⟨hA z hz.1, hz.2, fun e => dj z hz.1 (e ▸ hyB)⟩) (fun z hz => ⟨hB z hz.1, fun e => dj x hxA (e ▸ hz.1), hz.2⟩)
            (fun z hz q => dj z hz.1 q.1) (t g cg) (fun b hb => t b (cB b hb.1)) fun a ha => h.mono (fun z hz => by
              by_cases e : z = y
              · exact .inl (.inr e)
              · exact hz.elim (fun q => .inl (.inl q)) fun q => .inr ⟨q, e⟩) (cA a ha.1)
      refine .inr ⟨⟨a0, hA a0 ha0⟩, fun x hx => ?_⟩
      by_cases xA : A x
      · exact hit x A B xA hA hB dj cg cB cA
      · by_cases xB : B x
        · refine hit x B A xB hB hA (fun z hb ha => dj z ha hb) ?_ cA cB
          exact h.trans (fun z hz => by
            rcases hz with hz | hz
            · exact h.ext (.inl hz)
            · exact cA z hz) cg
        · exact idle x A B hx (fun z hz => ⟨hA z hz, fun e => xA (e ▸ hz)⟩) (fun z hz => ⟨hB z hz, fun e => xB (e ▸ hz)⟩) dj cg cB cA
/-- what is free lies in two lots, each free with the goal over X: the keeping hand does not win, it being its turn -/
structure Anti (C : Cl) (g : Nat) (X F : Nat → Prop) (J1 J2 : List Nat) : Prop where
  i1 : Ind (ov C X) fun z => z ∈ J1 ∨ z = g
  i2 : Ind (ov C X) fun z => z ∈ J2 ∨ z = g
  cov : ∀ x, F x → X x ∨ x ∈ J1 ∨ x ∈ J2
  s1 : ∀ x, x ∈ J1 → F x
  s2 : ∀ x, x ∈ J2 → F x
theorem Anti.swap {X F : Nat → Prop} {J1 J2 : List Nat} (a : Anti C g X F J1 J2) : Anti C g X F J2 J1 := ⟨a.i2, a.i1, fun x hx => (a.cov x hx).imp id Or.symm, a.s2, a.s1⟩
theorem Anti.cut (h : Clo C) {X F : Nat → Prop} {J1 J2 : List Nat} (a : Anti C g X F J1 J2) (x : Nat) : Anti C g X (fun z => F z ∧ z ≠ x) (J1.filter fun z => z != x) (J2.filter fun z => z != x) := by
  have m : ∀ J : List Nat, ∀ z, z ∈ J.filter (fun z => z != x) ↔ z ∈ J ∧ z ≠ x := fun J z => by simp
  exact ⟨a.i1.mono (h.ov X) fun z hz => hz.imp (fun q => ((m J1 z).mp q).1) id, a.i2.mono (h.ov X) fun z hz => hz.imp (fun q => ((m J2 z).mp q).1) id,
    fun z hz => (a.cov z hz.1).imp id fun q => q.imp (fun q => (m J1 z).mpr ⟨q, hz.2⟩) fun q => (m J2 z).mpr ⟨q, hz.2⟩,
    fun z hz => ⟨a.s1 z ((m J1 z).mp hz).1, ((m J1 z).mp hz).2⟩, fun z hz => ⟨a.s2 z ((m J2 z).mp hz).1, ((m J2 z).mp hz).2⟩⟩
/-- a free lot over X, one of it kept -/
theorem ind_keep (h : Clo C) {X S : Nat → Prop} {y : Nat} (i : Ind (ov C X) S) (hy : S y) : Ind (ov C fun z => X z ∨ z = y) fun z => S z ∧ z ≠ y := fun x hx c =>
  i x hx.1 (h.mono (fun z hz => by
    rcases hz with (hz | hz) | hz
    · exact .inl hz
    · subst hz
      exact .inr ⟨hy, fun e => hx.2 e.symm⟩
    · exact .inr ⟨hz.1.1, hz.2⟩) c)
theorem ov_iff {X S : Nat → Prop} {t : Nat} : ov C X S t ↔ C (fun r => X r ∨ S r) t := Iff.rfl
theorem anti_no (h : Clo C) : ∀ (n : Nat) {K X F : Nat → Prop} {J1 J2 : List Nat}, AtMost F n → (∀ x, K x → X x) → ¬ F g → Anti C g X F J1 J2 → ¬ Win C g n K F true := by
  intro n
  induction n using Nat.strongRecOn with
  | _ n ih =>
    intro K X F J1 J2 am kx ng a w
    have cx : ¬ C X g := fun c => a.i1 g (.inr rfl) (h.mono (fun z hz => .inl hz) c)
    have ck : ¬ C K g := fun c => cx (h.mono kx c)
    cases n with
    | zero => exact ck w
    | succ n =>
      rcases (show C K g ∨ ∃ y, F y ∧ Win C g n (fun z => K z ∨ z = y) (fun z => F z ∧ z ≠ y) false from w) with w | ⟨y, hy, w⟩
      · exact ck w
      have ngy : y ≠ g := fun e => ng (e ▸ hy)
      have am1 := am.less hy
      -- the cutting hand's answer
      have answer : ∀ (X' : Nat → Prop) (x : Nat) (J1' J2' : List Nat), (∀ z, K z ∨ z = y → X' z) → F x → x ≠ y → Anti C g X' (fun z => (F z ∧ z ≠ y) ∧ z ≠ x) J1' J2' → False := by
        intro X' x J1' J2' kx' hx hxy a'
        cases n with
        | zero => exact am1.zero x ⟨hx, hxy⟩
        | succ n =>
          rcases (show C (fun z => K z ∨ z = y) g ∨ ((∃ x, F x ∧ x ≠ y) ∧ ∀ x, (F x ∧ x ≠ y) → Win C g n (fun z => K z ∨ z = y) (fun z => (F z ∧ z ≠ y) ∧ z ≠ x) true) from w) with w | ⟨_, w⟩
          · exact (fun c => a'.i1 g (.inr rfl) (h.mono (fun z hz => .inl hz) c)) (h.mono kx' w)
          · exact ih n (by omega) (am1.less (x := x) ⟨hx, hxy⟩) kx' (fun q => ng q.1.1) a' (w x ⟨hx, hxy⟩)
      -- no one is left
      have none : ∀ X' : Nat → Prop, (∀ z, K z ∨ z = y → X' z) → ¬ C X' g → ∃ x, F x ∧ x ≠ y := by
        intro X' kx' cx'
        refine Classical.byContradiction fun q => ?_
        refine win_lost h n (fun c => ?_) w
        exact cx' (h.mono (fun z hz => hz.elim (kx' z) fun hz => absurd ⟨z, hz⟩ q) c)
      -- y lies in the first lot
      have main : ∀ J1 J2 : List Nat, Anti C g X F J1 J2 → y ∈ J1 → False := by
        intro J1 J2 a y1
        let X' : Nat → Prop := fun z => X z ∨ z = y
        have kx' : ∀ z, K z ∨ z = y → X' z := fun z hz => hz.imp (kx z) id
        have i1' : Ind (ov C X') fun z => z ∈ J1.filter (fun z => z != y) ∨ z = g := (ind_keep h a.i1 (.inl y1)).mono (h.ov X') fun z hz => by
          rcases hz with hz | hz
          · have hz' : z ∈ J1 ∧ z ≠ y := by simpa using hz
            exact ⟨.inl hz'.1, hz'.2⟩
          · exact ⟨.inr hz, fun e => ngy (e ▸ hz)⟩
        have cx' : ¬ C X' g := fun c => i1' g (.inr rfl) (h.mono (fun z hz => .inl hz) c)
        have m : ∀ J : List Nat, ∀ z, z ∈ J.filter (fun z => z != y) ↔ z ∈ J ∧ z ≠ y := fun J z => by simp
        -- once the second lot is free with the goal over X'
        have fin : ∀ J : List Nat, (∀ z, z ∈ J → z ∈ J2 ∧ z ≠ y) → Ind (ov C X') (fun z => z ∈ J ∨ z = g) → (∀ x, F x → x ≠ y → (∀ z, z ∈ J2 → z ≠ y → z ∈ J ∨ z = x) → False) := by
          intro J hJ i2' x hx hxy hcov
          refine answer X' x _ _ kx' hx hxy (Anti.cut (J1 := (J1.filter fun z => z != y).filter fun z => z != x) (J2 := J.filter fun z => z != x) (X := X') (F := fun z => (F z ∧ z ≠ y) ∧ z ≠ x) h ⟨i1'.mono (h.ov X') fun z hz => hz.imp (fun q => (List.mem_filter.mp q).1) id, i2'.mono (h.ov X') fun z hz => hz.imp (fun q => (List.mem_filter.mp q).1) id, ?_, ?_, ?_⟩ x |> fun q => ⟨q.i1, q.i2, fun z hz => q.cov z ⟨hz, hz.2⟩, fun z hz => (q.s1 z hz).1, fun z hz => (q.s2 z hz).1⟩)
          · intro z hz
            rcases a.cov z hz.1.1 with q | q | q
            · exact .inl (.inl q)
            · exact .inr (.inl (by simp [q, hz.1.2, hz.2]))
            · rcases hcov z q hz.1.2 with q | q
              · exact .inr (.inr (by simp [q, hz.2]))
              · exact absurd q hz.2
          · intro z hz
            have hz' : z ∈ J1 ∧ z ≠ x ∧ z ≠ y := by simpa using hz
            exact ⟨⟨a.s1 z hz'.1, hz'.2.2⟩, hz'.2.1⟩
          · intro z hz
            have hz' : z ∈ J ∧ z ≠ x := by simpa using hz
            exact ⟨⟨a.s2 z (hJ z hz'.1).1, (hJ z hz'.1).2⟩, hz'.2⟩
        obtain ⟨x0, hx0, hx0y⟩ := none X' kx' cx'
        by_cases y2 : y ∈ J2
        · refine fin (J2.filter fun z => z != y) (fun z hz => (m J2 z).mp hz) ?_ x0 hx0 hx0y fun z hz hzy => .inl ((m J2 z).mpr ⟨hz, hzy⟩)
          exact (ind_keep h a.i2 (.inl y2)).mono (h.ov X') fun z hz => by
            rcases hz with hz | hz
            · exact ⟨.inl ((m J2 z).mp hz).1, ((m J2 z).mp hz).2⟩
            · exact ⟨.inr hz, fun e => ngy (e ▸ hz)⟩
        · -- a lot of the second one with y and the goal, free over X
          have fromAdd : ∀ J : List Nat, (∀ z, z ∈ J → z ∈ J2) → ¬ C (fun r => X r ∨ (r ∈ J ∨ r = g)) y → Ind (ov C X') (fun z => z ∈ J ∨ z = g) := by
            intro J hJ ny
            have i3 : Ind (ov C X) fun z => (z ∈ J ∨ z = g) ∨ z = y := Ind.add (h.ov X) (a.i2.mono (h.ov X) fun z hz => hz.imp (hJ z) id) ny
            refine (ind_keep h i3 (.inr rfl)).mono (h.ov X') fun z hz => ⟨.inl hz, fun e => ?_⟩
            subst e
            rcases hz with hz | hz
            · exact y2 (hJ z hz)
            · exact ngy hz
          by_cases cy : C (fun r => X r ∨ (r ∈ J2 ∨ r = g)) y
          · have nd2 : ∀ z, z ∈ J2 → ¬ C (fun r => (X r ∨ r = g) ∨ (r ∈ J2 ∧ r ≠ z)) z := fun z hz c => a.i2 z (.inl hz) (h.mono (fun r hr => by
              rcases hr with (hr | hr) | hr
              · exact .inl hr
              · exact .inr ⟨.inr hr, fun e => ng (by rw [← hr, e]; exact a.s2 z hz)⟩
              · exact .inr ⟨.inl hr.1, hr.2⟩) c)
            rcases needed h (X := fun r => X r ∨ r = g) nd2 (h.mono (fun r hr => by
              rcases hr with hr | hr | hr
              · exact .inl (.inl hr)
              · exact .inr hr
              · exact .inl (.inr hr)) cy) with c | ⟨z, hz, nz⟩
            · -- y and the goal would hang together in the first lot
              have ny : ¬ C X y := fun c => a.i1 y (.inl y1) (h.mono (fun r hr => .inl hr) c)
              have c2 := h.exch c ny
              exact a.i1 g (.inr rfl) (h.mono (fun r hr => by
                rcases hr with hr | hr
                · exact .inl hr
                · subst hr
                  exact .inr ⟨.inl y1, ngy⟩) c2)
            · have zy : z ≠ y := fun e => y2 (e ▸ hz)
              refine fin (J2.filter fun r => r != z) (fun r hr => ?_) (fromAdd _ (fun r hr => (List.mem_filter.mp hr).1) fun c => nz (h.mono (fun r hr => ?_) c)) z (a.s2 z hz) zy fun r hr hry => ?_
              · exact ⟨(List.mem_filter.mp hr).1, fun e => y2 (e ▸ (List.mem_filter.mp hr).1)⟩
              · rcases hr with hr | hr | hr
                · exact .inl (.inl hr)
                · exact .inr (by simpa using hr)
                · exact .inl (.inr hr)
              · by_cases e : r = z
                · exact .inr e
                · exact .inl (by simp [hr, e])
          · exact fin J2 (fun z hz => ⟨hz, fun e => y2 (e ▸ hz)⟩) (fromAdd J2 (fun z hz => hz) cy) x0 hx0 hx0y fun z hz _ => .inl hz
      rcases a.cov y hy with q | q | q
      · -- y was given for free
        have kx' : ∀ z, K z ∨ z = y → X z := fun z hz => hz.elim (kx z) fun e => e ▸ q
        obtain ⟨x0, hx0, hx0y⟩ := none X kx' cx
        refine answer X x0 _ _ kx' hx0 hx0y ((a.cut h y).cut h x0)
      · exact main J1 J2 a q
      · exact main J2 J1 a.swap q
end
end FL
/-! Lehman's word on the cutting hand's turn; two games turned about. Plain Lean, no program. -/
namespace FL
open Classical in
theorem lehman {C : Cl} (h : Clo C) {g n : Nat} {K F D : Nat → Prop} {J : Nat → List Nat} (am : AtMost F n) (ng : ¬ F g) (nk : ¬ C K g) (nl : C (fun z => K z ∨ F z) g)
    (nd : ∀ k, (J k).Nodup) (jF : ∀ k x, x ∈ J k → F x) (dj : ∀ x, x ∈ J 0 → x ∉ J 1) (i : ∀ k, Ind (ov C K) fun z => z ∈ J k)
    (dF : ∀ x, D x → F x) (dT : ∀ x, D x → ∀ k, k < 2 → C (fun z => K z ∨ (D z ∧ z ∈ J k)) x) (cov : ∀ x, F x → D x ∨ x ∈ J 0 ∨ x ∈ J 1)
    (mx : ∀ R : Nat → Prop, Tight (ov C K) (fun k x => x ∈ J k) R → ∀ x, R x → F x → D x) : C (fun z => K z ∨ D z) g ↔ Win C g n K F false := by
  constructor
  · intro c
    refine win_hold h n (A := fun z => D z ∧ z ∈ J 0) (B := fun z => D z ∧ z ∈ J 1) am (fun x hx => dF x hx.1) (fun x hx => dF x hx.1) (fun x a b => dj x a.2 b.2) (h.trans (fun z hz => ?_) c) (fun b hb => dT b hb.1 0 (by omega)) fun a ha => dT a ha.1 1 (by omega)
    rcases hz with hz | hz
    · exact h.ext (.inl hz)
    · exact dT z hz 0 (by omega)
  · intro w
    refine Classical.byContradiction fun cx => ?_
    let X : Nat → Prop := fun z => K z ∨ D z
    let I : Nat → List Nat := fun k => (J k).filter fun z => decide (¬ D z)
    have mI : ∀ k z, z ∈ I k ↔ z ∈ J k ∧ ¬ D z := fun k z => by simp [I]
    have iI : ∀ k, k < 2 → Ind (ov C X) fun z => z ∈ I k := fun k hk x hx c => by
      obtain ⟨xJ, xD⟩ := (mI k x).mp hx
      refine i k x xJ (h.trans (fun z hz => ?_) c)
      rcases hz with (hz | hz) | hz
      · exact h.ext (.inl hz)
      · exact h.mono (fun r hr => hr.imp id fun q => ⟨q.2, fun e => xD (e ▸ q.1)⟩) (dT z hz k hk)
      · exact h.ext (.inr ⟨((mI k z).mp hz.1).1, hz.2⟩)
    let I' : Nat → List Nat := fun k => if k < 2 then I k else []
    have eI : ∀ k, k < 2 → I' k = I k := fun k hk => if_pos hk
    have mI' : ∀ k z, z ∈ I' k → k < 2 ∧ z ∈ J k ∧ ¬ D z := fun k z hz => by
      by_cases hk : k < 2
      · rw [eI k hk] at hz
        exact ⟨hk, (mI k z).mp hz⟩
      · have : I' k = [] := if_neg hk
        rw [this] at hz
        simp at hz
    -- F is not empty
    obtain ⟨f0, hf0⟩ : ∃ x, F x := Classical.byContradiction fun q => nk (h.mono (fun z hz => hz.elim id fun hz => absurd ⟨z, hz⟩ q) nl)
    cases n with
    | zero => exact am.zero f0 hf0
    | succ n =>
      -- a cut, behind which the keeping hand is lost
      have cut : ∀ x J1 J2, F x → Anti C g X (fun z => F z ∧ z ≠ x) J1 J2 → False := fun x J1 J2 hx a => by
        rcases (show C K g ∨ ((∃ x, F x) ∧ ∀ x, F x → Win C g n K (fun z => F z ∧ z ≠ x) true) from w) with w | ⟨_, w⟩
        · exact nk w
        · exact anti_no h n (am.less hx) (fun z hz => .inl hz) (fun q => ng q.1) a (w x hx)
      rcases augment (h.ov X) (C := ov C X) (J := I') (st := g) (fun k => by
        by_cases hk : k < 2
        · rw [eI k hk]; exact (nd k).filter _
        · have : I' k = [] := if_neg hk
          rw [this]; exact List.nodup_nil) (fun k => by
        by_cases hk : k < 2
        · rw [eI k hk]; exact iI k hk
        · have : I' k = [] := if_neg hk
          rw [this]; exact fun x hx => by simp at hx) (fun k hk hm => ng (jF k g (mI' k g hm).2.1)) with ⟨p, wp, pin, gp⟩ | ⟨R, T, Rg, Rin⟩
      · have ib : ∀ k, Ind (ov C X) (behind (fun n x => x ∈ I' n) p k) := way_ind (h.ov X) p _ (fun k => by
          by_cases hk : k < 2
          · show Ind (ov C X) fun z => z ∈ I' k
            rw [eI k hk]; exact iI k hk
          · show Ind (ov C X) fun z => z ∈ I' k
            have : I' k = [] := if_neg hk
            rw [this]; exact fun x hx => by simp at hx) wp
        obtain ⟨⟨g', k0⟩, hg, eg⟩ := List.mem_map.mp gp
        have eg : g' = g := eg
        subst eg
        have hk0 := (pin _ _ hg).1
        let JJ : Nat → List Nat := fun k => (I 0 ++ I 1).filter fun z => decide (behind (fun n x => x ∈ I' n) p k z)
        have mJJ : ∀ k z, z ∈ JJ k ↔ (z ∈ I 0 ∨ z ∈ I 1) ∧ behind (fun n x => x ∈ I' n) p k z := fun k z => by simp [JJ, or_and_right]
        have JF : ∀ k z, z ∈ JJ k → F z := fun k z hz => by
          rcases ((mJJ k z).mp hz).1 with q | q
          · exact jF 0 z ((mI 0 z).mp q).1
          · exact jF 1 z ((mI 1 z).mp q).1
        have covJ : ∀ x, F x → X x ∨ ∃ k, k < 2 ∧ x ∈ JJ k := fun x hx => by
          by_cases dx : D x
          · exact .inl (.inr dx)
          · have hk : ∃ k, k < 2 ∧ x ∈ I k := by
              rcases cov x hx with q | q | q
              · exact absurd q dx
              · exact ⟨0, by omega, (mI 0 x).mpr ⟨q, dx⟩⟩
              · exact ⟨1, by omega, (mI 1 x).mpr ⟨q, dx⟩⟩
            obtain ⟨k, hk, xk⟩ := hk
            have x01 : x ∈ I 0 ∨ x ∈ I 1 := by
              match k, hk with
              | 0, _ => exact .inl xk
              | 1, _ => exact .inr xk
            by_cases xp : x ∈ p.map (·.1)
            · obtain ⟨⟨x', m⟩, hm, e⟩ := List.mem_map.mp xp
              have e : x' = x := e
              subst e
              exact .inr ⟨m, (pin _ _ hm).1, (mJJ m _).mpr ⟨x01, .inr hm⟩⟩
            · exact .inr ⟨k, hk, (mJJ k x).mpr ⟨x01, .inl ⟨by show x ∈ I' k; rw [eI k hk]; exact xk, xp⟩⟩⟩
        have i1 : Ind (ov C X) fun z => z ∈ JJ k0 ∨ z = g' := (ib k0).mono (h.ov X) fun z hz => by
          rcases hz with hz | hz
          · exact ((mJJ k0 z).mp hz).2
          · subst hz
            exact .inr hg
        let k1 := 1 - k0
        have hk1 : k1 < 2 := by omega
        have two : ∀ k, k < 2 → k = k0 ∨ k = k1 := fun k hk => by omega
        have i2 : Ind (ov C X) fun z => z ∈ JJ k1 := (ib k1).mono (h.ov X) fun z hz => ((mJJ k1 z).mp hz).2
        have cov2 : ∀ x, F x → X x ∨ x ∈ JJ k0 ∨ x ∈ JJ k1 := fun x hx => (covJ x hx).imp id fun ⟨k, hk, q⟩ => by
          rcases two k hk with e | e
          · exact .inl (e ▸ q)
          · exact .inr (e ▸ q)
        by_cases cg : C (fun r => X r ∨ r ∈ JJ k1) g'
        · rcases needed h (X := X) (J := JJ k1) (fun z hz c => i2 z hz c) cg with c | ⟨z, hz, nz⟩
          · exact cx c
          · have m : ∀ r, r ∈ (JJ k1).filter (fun r => r != z) ↔ r ∈ JJ k1 ∧ r ≠ z := fun r => by simp
            have m0 : ∀ r, r ∈ (JJ k0).filter (fun r => r != z) ↔ r ∈ JJ k0 ∧ r ≠ z := fun r => by simp
            refine cut z ((JJ k0).filter fun r => r != z) ((JJ k1).filter fun r => r != z) (JF k1 z hz) ⟨i1.mono (h.ov X) fun r hr => hr.imp (fun q => ((m0 r).mp q).1) id, ?_, fun x hx => ?_, fun x hx => ⟨JF k0 x ((m0 x).mp hx).1, ((m0 x).mp hx).2⟩, fun x hx => ⟨JF k1 x ((m x).mp hx).1, ((m x).mp hx).2⟩⟩
            · exact (i2.mono (h.ov X) fun r hr => ((m r).mp hr).1).add (h.ov X) fun c => nz (h.mono (fun r hr => hr.imp id fun q => (m r).mp q) c)
            · rcases cov2 x hx.1 with q | q | q
              · exact .inl q
              · exact .inr (.inl ((m0 x).mpr ⟨q, hx.2⟩))
              · exact .inr (.inr ((m x).mpr ⟨q, hx.2⟩))
        · exact cut f0 _ _ hf0 (Anti.cut (J1 := JJ k0) (J2 := JJ k1) h ⟨i1, i2.add (h.ov X) cg, cov2, JF k0, JF k1⟩ f0)
      · -- the goal would lie in a tight set
        have c0 : C (fun z => X z ∨ (R z ∧ z ∈ I' 0)) g := T g Rg 0 (by omega)
        obtain ⟨x, xR, xI⟩ : ∃ x, R x ∧ x ∈ I' 0 := Classical.byContradiction fun q => cx (h.mono (fun z hz => hz.elim id fun hz => absurd ⟨z, hz⟩ q) c0)
        obtain ⟨_, xJ, xD⟩ := mI' 0 x xI
        refine xD (mx (fun z => D z ∨ (R z ∧ z ≠ g)) (fun t ht k hk => ?_) x (.inr ⟨xR, fun e => ng (e ▸ jF 0 x xJ)⟩) (jF 0 x xJ))
        rcases ht with ht | ht
        · exact h.mono (fun z hz => hz.imp id fun q => ⟨.inl q.1, q.2⟩) (dT t ht k hk)
        · have c1 : C (fun z => X z ∨ (R z ∧ z ∈ I' k)) t := T t ht.1 k hk
          show C (fun z => K z ∨ ((D z ∨ (R z ∧ z ≠ g)) ∧ z ∈ J k)) t
          refine h.trans (fun z hz => ?_) c1
          rcases hz with (hz | hz) | hz
          · exact h.ext (.inl hz)
          · exact h.mono (fun r hr => hr.imp id fun q => ⟨.inl q.1, q.2⟩) (dT z hz k hk)
          · obtain ⟨_, zJ, _⟩ := mI' k z hz.2
            exact h.ext (.inr ⟨.inr ⟨hz.1, fun e => ng (e ▸ jF k z zJ)⟩, zJ⟩)
/-! ### two games turned about -/
/-- E parted into what is kept, free, cut -/
structure Part (E K F T : Nat → Prop) : Prop where
  all : ∀ x, E x ↔ (K x ∨ F x ∨ T x)
  kf : ∀ x, K x → ¬ F x
  kt : ∀ x, K x → ¬ T x
  ft : ∀ x, F x → ¬ T x
/-- one closure is the other one's, turned about -/
def Turned (E : Nat → Prop) (g : Nat) (C C' : Cl) : Prop := ∀ S T : Nat → Prop, (∀ x, E x ↔ (S x ∨ T x)) → (∀ x, S x → ¬ T x) → (C S g ↔ ¬ C' T g)
theorem Turned.symm {E : Nat → Prop} {g : Nat} {C C' : Cl} (t : Turned E g C C') : Turned E g C' C := fun S T a b => by
  have := t T S (fun x => by rw [a x]; exact Or.comm) (fun x hx hs => b x hs hx)
  exact ⟨fun c q => this.mp q c, fun n => Classical.byContradiction fun c => n (this.mpr c)⟩
theorem Part.swap {E K F T : Nat → Prop} (p : Part E K F T) : Part E T F K := ⟨fun x => by rw [p.all x]; constructor <;> (rintro (h | h | h) <;> simp [h]), fun x a b => p.ft x b a, fun x a b => p.kt x b a, fun x a b => p.kf x b a⟩
theorem Part.keep {E K F T : Nat → Prop} (p : Part E K F T) {y : Nat} (hy : F y) : Part E (fun z => K z ∨ z = y) (fun z => F z ∧ z ≠ y) T := by
  refine ⟨fun x => ?_, fun x a b => ?_, fun x a b => ?_, fun x a b => p.ft x a.1 b⟩
  · rw [p.all x]
    by_cases e : x = y
    · subst e; simp [hy]
    · simp [e]
  · rcases a with a | a
    · exact p.kf x a b.1
    · exact b.2 a
  · rcases a with a | a
    · exact p.kt x a b
    · subst a; exact p.ft x hy b
theorem Part.cut {E K F T : Nat → Prop} (p : Part E K F T) {y : Nat} (hy : F y) : Part E K (fun z => F z ∧ z ≠ y) (fun z => T z ∨ z = y) := (p.swap.keep hy).swap
theorem Turned.made {E K F T : Nat → Prop} {g : Nat} {C C' : Cl} (t : Turned E g C C') (p : Part E K F T) : C K g ↔ ¬ C' (fun z => T z ∨ F z) g :=
  t K (fun z => T z ∨ F z) (fun x => by rw [p.all x]; constructor <;> (rintro (h | h | h) <;> simp [h])) fun x a b => b.elim (p.kt x a) (p.kf x a)
theorem win_turned {E : Nat → Prop} {g : Nat} : ∀ (n : Nat) {C C' : Cl}, Clo C → Clo C' → Turned E g C C' → ∀ {K F T : Nat → Prop} (b : Bool), AtMost F n → Part E K F T → (Win C g n K F b ↔ ¬ Win C' g n T F (!b)) := by
  intro n
  induction n with
  | zero =>
    intro C C' h h' t K F T b am p
    show C K g ↔ ¬ C' T g
    rw [t.made p]
    constructor
    · exact fun q c => q (h'.mono (fun x hx => .inl hx) c)
    · exact fun q c => q (h'.mono (fun x hx => hx.elim id fun hx => absurd hx (am.zero x)) c)
  | succ n ih =>
    -- the keeping hand's turn
    have one : ∀ {C C' : Cl}, Clo C → Clo C' → Turned E g C C' → ∀ {K F T : Nat → Prop}, AtMost F (n + 1) → Part E K F T → (Win C g (n + 1) K F true ↔ ¬ Win C' g (n + 1) T F false) := by
      intro C C' h h' t K F T am p
      have stp : ∀ y, F y → (Win C g n (fun z => K z ∨ z = y) (fun z => F z ∧ z ≠ y) false ↔ ¬ Win C' g n T (fun z => F z ∧ z ≠ y) true) := fun y hy => ih h h' t false (am.less hy) (p.keep hy)
      show (C K g ∨ ∃ y, F y ∧ Win C g n (fun z => K z ∨ z = y) (fun z => F z ∧ z ≠ y) false) ↔ ¬ (C' T g ∨ ((∃ x, F x) ∧ ∀ x, F x → Win C' g n T (fun z => F z ∧ z ≠ x) true))
      constructor
      · rintro (c | ⟨y, hy, w⟩) (q | ⟨⟨x, hx⟩, q⟩)
        · exact (t.made p).mp c (h'.mono (fun x hx => .inl hx) q)
        · exact win_lost h' n (fun c' => (t.made p).mp c (h'.mono (fun z hz => hz.imp id fun hz => hz.1) c')) (q x hx)
        · exact (stp y hy).mp w (win_made n q)
        · exact (stp y hy).mp w (q y hy)
      · intro q
        by_cases fe : ∃ x, F x
        · refine .inr (Classical.byContradiction fun nw => q (.inr ⟨fe, fun x hx => Classical.byContradiction fun nx => nw ⟨x, hx, (stp x hx).mpr nx⟩⟩))
        · refine .inl ((t.made p).mpr fun c => q (.inl (h'.mono (fun x hx => hx.elim id fun hx => absurd ⟨x, hx⟩ fe) c)))
    intro C C' h h' t K F T b am p
    cases b with
    | true => exact one h h' t am p
    | false =>
      have := one h' h t.symm am p.swap
      exact ⟨fun w q => this.mp q w, fun q => Classical.byContradiction fun w => q (this.mpr w)⟩
end FL
/-! Lots of things (places in the list of free rows), put one by one; the stuck ones; the word on the cutting hand's turn in rows. Plain Lean, no program. -/
namespace FL
def two (a b : List Nat) : Nat → List Nat
  | 0 => a
  | 1 => b
  | _ => []
abbrev lotsOf (a b : List Nat) : Lots := fun n x => x ∈ two a b n
theorem two_lt {a b : List Nat} {n x : Nat} (h : x ∈ two a b n) : n < 2 := by
  match n, h with
  | 0, _ => omega
  | 1, _ => omega
  | n + 2, h => simp [two] at h
/-- the lots behind the things below i -/
structure LotsOk (P : Cl) (i : Nat) (a b : List Nat) : Prop where
  nda : a.Nodup
  ndb : b.Nodup
  lt : ∀ n x, x ∈ two a b n → x < i
  dj : ∀ x, x ∈ a → x ∉ b
  ind : ∀ n, Ind P fun x => x ∈ two a b n
  unc : ∀ t, t < i → t ∉ a → t ∉ b → ∃ R, Tight P (lotsOf a b) R ∧ R t
section
variable {P : Cl} {i : Nat} {a b : List Nat}
theorem lots_start : LotsOk P 0 [] [] := ⟨List.nodup_nil, List.nodup_nil, fun n x h => by
  match n, h with
  | 0, h => simp [two] at h
  | 1, h => simp [two] at h
  | n + 2, h => simp [two] at h, fun x h => by simp at h, fun n x h => by
  match n, h with
  | 0, h => simp [two] at h
  | 1, h => simp [two] at h
  | n + 2, h => simp [two] at h, fun t h => by omega⟩
theorem LotsOk.out (I : LotsOk P i a b) : ∀ n, i ∉ two a b n := fun n h => by have := I.lt n i h; omega
theorem LotsOk.none (I : LotsOk P i a b) {R : Nat → Prop} (T : Tight P (lotsOf a b) R) (hR : R i) : LotsOk P (i + 1) a b :=
  ⟨I.nda, I.ndb, fun n x h => by have := I.lt n x h; omega, I.dj, I.ind, fun t ht ha hb => by
    by_cases e : t = i
    · subst e; exact ⟨R, T, hR⟩
    · exact I.unc t (by omega) ha hb⟩
/-- behind a way that was found -/
theorem LotsOk.some (h : Clo P) (I : LotsOk P i a b) {R : List Ent} {x y j t n : Nat} {o : Option (Nat × Nat)} (B : BInv P (lotsOf a b) i R x y) (hr : R[j]? = Option.some (t, o)) (hn : n < 2) (room : ¬ P (fun z => z ∈ two a b n) t)
    {rest : List (Nat × Nat)} (bk : Back P (lotsOf a b) R ((t, n) :: rest)) (hm2 : ∀ m, m ∈ rest → m.2 < 2) {a' b' : List Nat} (nda : a'.Nodup) (ndb : b'.Nodup)
    (ma : ∀ z, z ∈ a' ↔ behind (lotsOf a b) ((t, n) :: rest) 0 z) (mb : ∀ z, z ∈ b' ↔ behind (lotsOf a b) ((t, n) :: rest) 1 z) : LotsOk P (i + 1) a' b' := by
  let p := (t, n) :: rest
  have hp2 : ∀ m, m ∈ p → m.2 < 2 := fun m hm => by
    rcases List.mem_cons.mp hm with e | hm
    · rw [e]; exact hn
    · exact hm2 m hm
  have mem : ∀ k z, z ∈ two a' b' k ↔ (k < 2 ∧ behind (lotsOf a b) p k z) := fun k z => by
    match k with
    | 0 => exact ⟨fun q => ⟨by omega, (ma z).mp q⟩, fun q => (ma z).mpr q.2⟩
    | 1 => exact ⟨fun q => ⟨by omega, (mb z).mp q⟩, fun q => (mb z).mpr q.2⟩
    | k + 2 => exact ⟨fun q => by simp [two] at q, fun q => by omega⟩
  have hroom : ∀ t' n' q, p = (t', n') :: q → ¬ P (lotsOf a b n') t' := fun t' n' q e => by
    injection e with e1 e2
    cases e1
    exact room
  have wp : WayOk P (lotsOf a b) p := bk.way hroom
  have ib := way_ind h p _ I.ind wp
  -- the last of the way is the start
  obtain ⟨y0, s0, m0, e0⟩ : ∃ y s m, p = y ++ [(s, m)] := by
    rcases List.eq_nil_or_concat p with e | ⟨y, ⟨s, m⟩, e⟩
    · exact absurd e (List.cons_ne_nil _ _)
    · exact ⟨y, s, m, by rw [e, List.concat_eq_append]⟩
  have hs0 : s0 = i := by
    have hl := bk.last y0 s0 m0 e0
    obtain ⟨k, hk⟩ := List.getElem?_of_mem hl
    have hk0 := B.no k s0 hk
    subst hk0
    rw [B.hd] at hk
    cases hk
    rfl
  -- whoever moves is the start or in a lot
  have mov : ∀ z k, (z, k) ∈ p → z = i ∨ ∃ m, m < 2 ∧ z ∈ two a b m := fun z k hz => by
    obtain ⟨u, v, e⟩ := List.append_of_mem hz
    cases v with
    | nil =>
      have := bk.last u z k e
      obtain ⟨q, hq⟩ := List.getElem?_of_mem this
      have hq0 := B.no q z hq
      subst hq0
      rw [B.hd] at hq
      cases hq
      exact .inl rfl
    | cons w v =>
      obtain ⟨s, m⟩ := w
      obtain ⟨_, hm, Z, st, hz, _⟩ := bk.turn u z k s m v e
      exact .inr ⟨m, hm, (st.of_mem hz).1 z hz⟩
  have ip : i ∈ p.map (·.1) := by rw [e0, hs0]; simp
  have covd : ∀ z m, m < 2 → z ∈ two a b m → z ∈ a' ∨ z ∈ b' := fun z m hm hz => by
    have two' : ∀ k, k < 2 → behind (lotsOf a b) p k z → z ∈ a' ∨ z ∈ b' := fun k hk q => by
      match k, hk, q with
      | 0, _, q => exact .inl ((ma z).mpr q)
      | 1, _, q => exact .inr ((mb z).mpr q)
    by_cases zp : z ∈ p.map (·.1)
    · obtain ⟨⟨z', k⟩, hk, e⟩ := List.mem_map.mp zp
      have e : z' = z := e
      subst e
      exact two' k (hp2 _ hk) (.inr hk)
    · exact two' m hm (.inl ⟨hz, zp⟩)
  have icov : i ∈ a' ∨ i ∈ b' := by
    obtain ⟨⟨z', k⟩, hk, e⟩ := List.mem_map.mp ip
    have e : z' = i := e
    subst e
    have hk2 := hp2 _ hk
    match k, hk2, hk with
    | 0, _, hk => exact .inl ((ma _).mpr (.inr hk))
    | 1, _, hk => exact .inr ((mb _).mpr (.inr hk))
  refine ⟨nda, ndb, fun k z hz => ?_, fun z hz hz' => ?_, fun k => (ib k).mono h fun z hz => ((mem k z).mp hz).2, fun u hu ha hb => ?_⟩
  · rcases ((mem k z).mp hz).2 with q | q
    · have := I.lt k z q.1; omega
    · rcases mov z k q with e | ⟨m, _, q⟩
      · omega
      · have := I.lt m z q; omega
  · have q0 := (ma z).mp hz
    have q1 := (mb z).mp hz'
    rcases q0 with ⟨q0, n0⟩ | q0
    · rcases q1 with ⟨q1, n1⟩ | q1
      · exact I.dj z q0 q1
      · exact n0 (List.mem_map.mpr ⟨_, q1, rfl⟩)
    · rcases q1 with ⟨q1, n1⟩ | q1
      · exact n1 (List.mem_map.mpr ⟨_, q0, rfl⟩)
      · -- both in the way: nodup
        have nd := bk.nd
        obtain ⟨i0, h0⟩ := List.getElem?_of_mem q0
        obtain ⟨i1, h1⟩ := List.getElem?_of_mem q1
        have g0 : (p.map (·.1))[i0]? = Option.some z := by rw [List.getElem?_map, h0]; rfl
        have g1 : (p.map (·.1))[i1]? = Option.some z := by rw [List.getElem?_map, h1]; rfl
        have li := (List.getElem?_eq_some_iff.mp h0).1
        have : i0 = i1 := (List.getElem?_inj (by rw [List.length_map]; exact li) nd).mp (g0.trans g1.symm)
        subst this
        rw [h0] at h1
        cases h1
  · -- an uncovered thing: its tight set stays
    have hui : u ≠ i := fun e => by
      subst e
      exact icov.elim ha hb
    have hua : u ∉ a := fun q => (covd u 0 (by omega) q).elim ha hb
    have hub : u ∉ b := fun q => (covd u 1 (by omega) q).elim ha hb
    obtain ⟨D, T, Du⟩ := I.unc u (by omega) hua hub
    have hti : ¬ D t := fun q => room (h.mono (fun z hz => hz.2) (T t q n hn))
    have nmov : ∀ (v u : List (Nat × Nat)), p = u ++ v → (∀ z, z ∈ u → ¬ D z.1) → (∀ z, v.head? = Option.some z → ¬ D z.1) → ∀ z, z ∈ v → ¬ D z.1 := by
      intro v
      induction v with
      | nil => intro u _ _ _ z hz; simp at hz
      | cons w v ih =>
        intro u e hu hh z hz
        have hw := hh w rfl
        rcases List.mem_cons.mp hz with e' | hz
        · rw [e']; exact hw
        · refine ih (u ++ [w]) (by rw [e]; simp) (fun z hz => ?_) (fun z' hz' => ?_) z hz
          · rcases List.mem_append.mp hz with hz | hz
            · exact hu z hz
            · rw [List.mem_singleton] at hz
              rw [hz]; exact hw
          · cases v with
            | nil => simp at hz'
            | cons w2 v =>
              have ez : w2 = z' := Option.some.inj hz'
              subst ez
              obtain ⟨w1, k1⟩ := w
              obtain ⟨s, m⟩ := w2
              obtain ⟨_, hm, Z, st, hz2, _⟩ := bk.turn u w1 k1 s m v e
              exact fun q => hw (T.step h q hm st hz2)
    have nm : ∀ z, z ∈ p → ¬ D z.1 := nmov p [] rfl (fun z hz => by simp at hz) fun z hz => by
      have e : (t, n) = z := Option.some.inj hz
      rw [← e]; exact hti
    refine ⟨D, fun s hs k hk => h.mono (fun z hz => ⟨hz.1, (mem k z).mpr ⟨hk, .inl ⟨hz.2, fun q => ?_⟩⟩⟩) (T s hs k hk), Du⟩
    obtain ⟨w, hw, e⟩ := List.mem_map.mp q
    have e : w.1 = z := e
    exact nm w hw (e ▸ hz.1)
end
/-! ### a further copy -/
section
variable {C : Cl} {K : Nat → Prop} {f f' : Nat → Nat} {m x : Nat} {a b : List Nat}
theorem pull_congr (h : Clo C) {S : Nat → Prop} {t t' : Nat} (hs : ∀ s, S s → f s = f' s) (ht : f t = f' t') (c : pull f C K S t) : pull f' C K S t' := by
  show C (fun r => K r ∨ ∃ s, S s ∧ f' s = r) (f' t')
  rw [← ht]
  exact h.mono (fun r hr => hr.imp id fun ⟨s, q, e⟩ => ⟨s, q, by rw [← hs s q]; exact e⟩) c
theorem copy_none (h : Clo C) (lt : ∀ n z, z ∈ two a b n → z < m) (hf : ∀ z, z < m → f' z = f z) (hx : f' m = f x) (xm : x < m) {R : List Ent} (B : BInv (pull f' C K) (lotsOf a b) m R R.length 0) : ∃ D, Tight (pull f C K) (lotsOf a b) D ∧ D x := by
  have T := B.tight (h.pull f' K)
  have hm : m ∈ R.map (·.1) := List.mem_map.mpr ⟨_, List.mem_of_getElem? B.hd, rfl⟩
  refine ⟨fun t => (t ∈ R.map (·.1) ∧ t < m) ∨ t = x, fun t ht n hn => ?_, .inr rfl⟩
  have key : ∀ s t, s ∈ R.map (·.1) → f' s = f t → pull f C K (fun z => ((z ∈ R.map (·.1) ∧ z < m) ∨ z = x) ∧ z ∈ two a b n) t := fun s t hs e => by
    have c := T s hs n hn
    refine pull_congr h (f := f') (f' := f) (t := s) (fun z hz => ?_) e ((h.pull f' K).mono (fun z hz => ⟨.inl ⟨hz.1, lt n z hz.2⟩, hz.2⟩) c)
    exact hf z (lt n z hz.2)
  rcases ht with ⟨ht, tm⟩ | ht
  · exact key t t ht (hf t tm)
  · subst ht
    exact key m t hm hx
theorem copy_some (h : Clo C) (lt : ∀ n z, z ∈ two a b n → z < m) (hf : ∀ z, z < m → f' z = f z) (hx : f' m = f x) {R : List Ent} {u v j t n : Nat} {o : Option (Nat × Nat)} (B : BInv (pull f' C K) (lotsOf a b) m R u v) (hr : R[j]? = some (t, o)) (hn : n < 2)
    (room : ¬ pull f' C K (fun z => z ∈ two a b n) t) {D : Nat → Prop} (T : Tight (pull f C K) (lotsOf a b) D) (Dx : D x) : False := by
  have T' : Tight (pull f' C K) (lotsOf a b) fun z => (D z ∧ z < m) ∨ z = m := fun s hs n hn => by
    have key : ∀ s0, D s0 → f s0 = f' s → pull f' C K (fun z => ((D z ∧ z < m) ∨ z = m) ∧ z ∈ two a b n) s := fun s0 h0 e =>
      pull_congr h (f := f) (f' := f') (fun z hz => (hf z (lt n z hz.2)).symm) e ((h.pull f K).mono (fun z hz => ⟨.inl ⟨hz.1, lt n z hz.2⟩, hz.2⟩) (T s0 h0 n hn))
    rcases hs with ⟨hs, sm⟩ | hs
    · exact key s hs (hf s sm).symm
    · subst hs
      exact key x Dx hx.symm
  have := B.within (h.pull f' K) T' (.inr rfl) j t o hr
  exact room ((h.pull f' K).mono (fun z hz => hz.2) (T' t this n hn))
end
/-! ### the word in rows -/
theorem hold_word {C : Cl} (h : Clo C) {g n : Nat} {K : Nat → Prop} {free a b : List Nat} {D : Nat → Prop} (nf : free.Nodup) (hn : free.length ≤ n) (ng : g ∉ free) (nk : ¬ C K g) (nl : C (fun z => K z ∨ z ∈ free) g)
    (I : LotsOk (pull (fun i => free.getD i 0) C K) free.length a b) (hD : ∀ r, D r ↔ ∃ t, t < free.length ∧ free.getD t 0 = r ∧ ∃ R, Tight (pull (fun i => free.getD i 0) C K) (lotsOf a b) R ∧ R t) :
    C (fun z => K z ∨ D z) g ↔ Win C g n K (fun z => z ∈ free) false := by
  let f : Nat → Nat := fun i => free.getD i 0
  have fm : ∀ t, t < free.length → f t ∈ free := fun t ht => by
    have : f t = free[t] := by simp [f, ht]
    rw [this]
    exact List.getElem_mem ht
  have inj : ∀ s t, s < free.length → t < free.length → f s = f t → s = t := fun s t hs ht e => by
    have e1 : f s = free[s] := by simp [f, hs]
    have e2 : f t = free[t] := by simp [f, ht]
    rw [e1, e2] at e
    exact (List.getElem_inj nf).mp e
  have mJ : ∀ k r, r ∈ (two a b k).map f ↔ ∃ t, t ∈ two a b k ∧ f t = r := fun k r => List.mem_map
  have ndJ : ∀ k, ((two a b k).map f).Nodup := fun k => by
    have nd : (two a b k).Nodup := by
      match k with
      | 0 => exact I.nda
      | 1 => exact I.ndb
      | k + 2 => exact List.nodup_nil
    have lt := I.lt k
    generalize two a b k = l at nd lt
    induction l with
    | nil => exact List.nodup_nil
    | cons x l ih =>
      rw [List.nodup_cons] at nd
      rw [List.map_cons, List.nodup_cons]
      refine ⟨fun hm => ?_, ih nd.2 fun z hz => lt z (List.mem_cons_of_mem _ hz)⟩
      obtain ⟨y, hy, e⟩ := List.mem_map.mp hm
      have := inj y x (lt y (List.mem_cons_of_mem _ hy)) (lt x List.mem_cons_self) e
      exact nd.1 (this ▸ hy)
  refine lehman h (J := fun k => (two a b k).map f) (D := D) ⟨free, hn, fun x hx => hx⟩ ng nk nl ndJ (fun k r hr => ?_) (fun r h0 h1 => ?_) (fun k r hr c => ?_) (fun r hr => ?_) (fun r hr k hk => ?_) (fun r hr => ?_) fun R T r hR hr => ?_
  · obtain ⟨t, ht, e⟩ := (mJ k r).mp hr
    exact e ▸ fm t (I.lt k t ht)
  · obtain ⟨t, ht, e⟩ := (mJ 0 r).mp h0
    obtain ⟨s, hs, e'⟩ := (mJ 1 r).mp h1
    have := inj s t (I.lt 1 s hs) (I.lt 0 t ht) (e'.trans e.symm)
    subst this
    exact I.dj s ht hs
  · obtain ⟨t, ht, e⟩ := (mJ k r).mp hr
    subst e
    refine I.ind k t ht (h.mono (fun z hz => ?_) c)
    rcases hz with hz | ⟨hz, ne⟩
    · exact .inl hz
    · obtain ⟨s, hs, e⟩ := (mJ k z).mp hz
      exact .inr ⟨s, ⟨hs, fun q => ne (by rw [← e, q])⟩, e⟩
  · obtain ⟨t, ht, e, _⟩ := (hD r).mp hr
    exact e ▸ fm t ht
  · obtain ⟨t, ht, e, R, T, hR⟩ := (hD r).mp hr
    subst e
    have c := T t hR k hk
    refine h.mono (fun z hz => ?_) c
    rcases hz with hz | ⟨s, ⟨sR, sJ⟩, e⟩
    · exact .inl hz
    · exact .inr ⟨(hD z).mpr ⟨s, I.lt k s sJ, e, R, T, sR⟩, (mJ k z).mpr ⟨s, sJ, e⟩⟩
  · obtain ⟨t, ht, e⟩ := List.getElem_of_mem hr
    have e' : f t = r := by rw [← e]; simp [f, ht]
    by_cases ta : t ∈ a
    · exact .inr (.inl ((mJ 0 r).mpr ⟨t, ta, e'⟩))
    · by_cases tb : t ∈ b
      · exact .inr (.inr ((mJ 1 r).mpr ⟨t, tb, e'⟩))
      · obtain ⟨R, T, hR⟩ := I.unc t ht ta tb
        exact .inl ((hD r).mpr ⟨t, ht, e', R, T, hR⟩)
  · obtain ⟨t, ht, e⟩ := List.getElem_of_mem hr
    have e' : f t = r := by rw [← e]; simp [f, ht]
    refine (hD r).mpr ⟨t, ht, e', fun s => R (f s), fun s hs k hk => ?_, by show R (f t); rw [e']; exact hR⟩
    have c : C (fun z => K z ∨ (R z ∧ z ∈ (two a b k).map f)) (f s) := T (f s) hs k hk
    refine h.mono (fun z hz => ?_) c
    rcases hz with hz | ⟨hz, hm⟩
    · exact .inl hz
    · obtain ⟨q, hq, e⟩ := (mJ k z).mp hm
      exact .inr ⟨q, ⟨by show R (f q); rw [e]; exact hz, hq⟩, e⟩
end FL
/-! Rows of integers by a field (0 or a prime): what is made of what. Plain Lean, no program. -/
namespace FL
abbrev Vec := Nat → Int
structure Fld (p : Int) : Prop where
  one : ¬ p ∣ 1
  mul : ∀ a b : Int, p ∣ a * b → p ∣ a ∨ p ∣ b
theorem Fld.nz {p : Int} (f : Fld p) {a b : Int} (ha : ¬ p ∣ a) (hb : ¬ p ∣ b) : ¬ p ∣ a * b := fun c => (f.mul a b c).elim ha hb
theorem dv1 {p a c : Int} (x : Int) (ha : p ∣ a) (e : c = x * a) : p ∣ c := by
  rw [e]
  exact Int.dvd_trans ha (Int.dvd_mul_left _ _)
theorem dv2 {p a b c : Int} (x y : Int) (ha : p ∣ a) (hb : p ∣ b) (e : c = x * a + y * b) : p ∣ c := by
  rw [e]
  exact Int.dvd_add (dv1 x ha rfl) (dv1 y hb rfl)
theorem dv3 {p a b d c : Int} (x y z : Int) (ha : p ∣ a) (hb : p ∣ b) (hd : p ∣ d) (e : c = x * a + y * b + z * d) : p ∣ c := by
  rw [e]
  exact Int.dvd_add (Int.dvd_add (dv1 x ha rfl) (dv1 y hb rfl)) (dv1 z hd rfl)
theorem dv0 {p c : Int} (e : c = 0) : p ∣ c := by rw [e]; exact Int.dvd_zero p
inductive Spn (p : Int) (G : Vec → Prop) : Vec → Prop where
  | zero (v : Vec) : (∀ i, p ∣ v i) → Spn p G v
  | gen (v : Vec) : G v → Spn p G v
  | comb (a b : Int) (u v w : Vec) : Spn p G u → Spn p G v → (∀ i, p ∣ w i - (a * u i + b * v i)) → Spn p G w
  | div (c : Int) (v : Vec) : ¬ p ∣ c → Spn p G (fun i => c * v i) → Spn p G v
section
variable {p : Int} {G G' : Vec → Prop} {u v w x : Vec}
theorem Spn.bind (hg : ∀ v, G v → Spn p G' v) (s : Spn p G v) : Spn p G' v := by
  induction s with
  | zero v h => exact .zero v h
  | gen v h => exact hg v h
  | comb a b u v w _ _ h i1 i2 => exact .comb a b u v w i1 i2 h
  | div c v h _ i => exact .div c v h i
theorem Spn.mono (hg : ∀ v, G v → G' v) (s : Spn p G v) : Spn p G' v := s.bind fun v h => .gen v (hg v h)
theorem Spn.like (s : Spn p G u) (h : ∀ i, p ∣ v i - u i) : Spn p G v := .comb 1 0 u u v s s fun i => dv1 1 (h i) (by grind)
/-- c * v is like a * u + b * w -/
theorem Spn.over (c a b : Int) (hc : ¬ p ∣ c) (hu : Spn p G u) (hw : Spn p G w) (h : ∀ i, p ∣ c * v i - (a * u i + b * w i)) : Spn p G v := .div c v hc (.comb a b u w _ hu hw h)
/-- what a further one adds -/
theorem Spn.split (f : Fld p) (s : Spn p (fun u => G u ∨ u = x) v) : ∃ c0 c : Int, ¬ p ∣ c0 ∧ Spn p G fun i => c0 * v i - c * x i := by
  induction s with
  | zero v h => exact ⟨1, 0, f.one, .zero _ fun i => dv1 1 (h i) (by grind)⟩
  | gen v h =>
    rcases h with h | h
    · exact ⟨1, 0, f.one, (Spn.gen v h).like fun i => dv0 (by grind)⟩
    · subst h
      exact ⟨1, 1, f.one, .zero _ fun i => dv0 (by grind)⟩
  | comb a b u v w _ _ h i1 i2 =>
    obtain ⟨c1, d1, n1, s1⟩ := i1
    obtain ⟨c2, d2, n2, s2⟩ := i2
    refine ⟨c1 * c2, a * c2 * d1 + b * c1 * d2, f.nz n1 n2, .comb (a * c2) (b * c1) _ _ _ s1 s2 fun i => dv1 (c1 * c2) (h i) (by grind)⟩
  | div c v h _ i =>
    obtain ⟨c0, d, n, s⟩ := i
    exact ⟨c0 * c, d, f.nz n h, s.like fun i => dv0 (by grind)⟩
/-- a linear form that kills the generators kills what is made of them -/
inductive Lin : (Vec → Int) → Prop where
  | coord (i : Nat) : Lin fun v => v i
  | comb (a b : Int) (m k : Vec → Int) : Lin m → Lin k → Lin fun v => a * m v + b * k v
theorem Lin.lin {m : Vec → Int} (l : Lin m) : ∀ (a b : Int) (u v : Vec), m (fun i => a * u i + b * v i) = a * m u + b * m v := by
  induction l with
  | coord i => intro a b u v; rfl
  | comb c d m k _ _ i1 i2 =>
    intro a b u v
    show c * m (fun i => a * u i + b * v i) + d * k (fun i => a * u i + b * v i) = a * (c * m u + d * k u) + b * (c * m v + d * k v)
    rw [i1, i2]
    grind
theorem Lin.cong {m : Vec → Int} (l : Lin m) : ∀ (u v : Vec), (∀ i, p ∣ u i - v i) → p ∣ m u - m v := by
  induction l with
  | coord i => intro u v h; exact h i
  | comb c d m k _ _ i1 i2 => intro u v h; exact dv2 c d (i1 u v h) (i2 u v h) (by grind)
theorem Lin.zero {m : Vec → Int} (l : Lin m) {v : Vec} (h : ∀ i, p ∣ v i) : p ∣ m v := by
  induction l with
  | coord i => exact h i
  | comb c d m k _ _ i1 i2 => exact dv2 c d i1 i2 (by grind)
theorem Lin.kill (f : Fld p) {m : Vec → Int} (l : Lin m) (hg : ∀ v, G v → p ∣ m v) (s : Spn p G v) : p ∣ m v := by
  induction s with
  | zero v h => exact l.zero h
  | gen v h => exact hg v h
  | comb a b u v w _ _ h i1 i2 =>
    have h1 := l.cong w (fun i => a * u i + b * v i) h
    rw [l.lin] at h1
    exact dv3 1 a b h1 i1 i2 (by grind)
  | div c v h _ i =>
    have e : m (fun i => c * v i) = c * m v := by
      have := l.lin c 0 v v
      have e2 : (fun i => c * v i + 0 * v i) = fun i => c * v i := by funext i; grind
      rw [e2] at this
      rw [this]; grind
    rw [e] at i
    exact (f.mul c _ i).resolve_left h
/-- either it is made of these, or a linear form tells -/
theorem form_or (f : Fld p) : ∀ (S : List Vec) (g : Vec), Spn p (fun v => v ∈ S) g ∨ ∃ m, Lin m ∧ (∀ s, s ∈ S → p ∣ m s) ∧ ¬ p ∣ m g
  | [], g => by
    by_cases h : ∀ i, p ∣ g i
    · exact .inl (.zero g h)
    · obtain ⟨i, hi⟩ := Classical.not_forall.mp h
      exact .inr ⟨_, .coord i, fun s hs => by simp at hs, hi⟩
  | s :: S, g => by
    rcases form_or f S g with h | ⟨m, lm, km, gm⟩
    · exact .inl (h.mono fun v hv => List.mem_cons_of_mem _ hv)
    · rcases form_or f S s with h | ⟨k, lk, kk, sk⟩
      · refine .inr ⟨m, lm, fun x hx => ?_, gm⟩
        rcases List.mem_cons.mp hx with e | hx
        · rw [e]; exact lm.kill f (fun v hv => km v hv) h
        · exact km x hx
      · rcases form_or f S (fun i => k s * g i + (- k g) * s i) with h | ⟨m2, l2, k2, g2⟩
        · refine .inl (.over (k s) 1 (k g) sk (h.mono fun v hv => List.mem_cons_of_mem _ hv) (.gen s List.mem_cons_self) fun i => dv0 (by grind))
        · refine .inr ⟨_, .comb (k s) (- m2 s) m2 k l2 lk, fun x hx => ?_, fun c => g2 ?_⟩
          · rcases List.mem_cons.mp hx with e | hx
            · rw [e]; exact dv0 (by grind)
            · exact dv2 (k s) (- m2 s) (k2 x hx) (kk x hx) rfl
          · rw [l2.lin]
            exact dv1 1 c (by grind)
end
/-! ### rows by their indexes -/
def rowsIn (r : Nat → Vec) (S : Nat → Prop) : Vec → Prop := fun v => ∃ s, S s ∧ v = r s
def cl (p : Int) (r : Nat → Vec) : Cl := fun S k => Spn p (rowsIn r S) (r k)
theorem cl_clo {p : Int} (f : Fld p) (r : Nat → Vec) : Clo (cl p r) where
  ext := fun {S x} hx => .gen _ ⟨x, hx, rfl⟩
  trans := fun {S T y} hs c => Spn.bind (fun v ⟨s, hs', e⟩ => by rw [e]; exact hs s hs') c
  exch := fun {S x y} c n => by
    have c1 : Spn p (fun u => rowsIn r S u ∨ u = r x) (r y) := c.mono fun v ⟨s, hs, e⟩ => by
      rcases hs with hs | hs
      · exact .inl ⟨s, hs, e⟩
      · exact .inr (by rw [e, hs])
    obtain ⟨c0, d, n0, s⟩ := c1.split f
    have up : Spn p (rowsIn r fun z => S z ∨ z = y) fun i => c0 * r y i - d * r x i := s.mono fun v ⟨s, hs, e⟩ => ⟨s, .inl hs, e⟩
    by_cases hd : p ∣ d
    · exact absurd (.div c0 _ n0 (s.like fun i => dv1 (r x i) hd (by grind))) n
    · exact .over d c0 (-1) hd (.gen (r y) ⟨y, .inr rfl, rfl⟩) up fun i => dv0 (by grind)
def sumN : Nat → (Nat → Int) → Int
  | 0, _ => 0
  | n + 1, f => sumN n f + f n
theorem sumN_congr : ∀ (n : Nat) {f g : Nat → Int}, (∀ k, k < n → f k = g k) → sumN n f = sumN n g
  | 0, _, _, _ => rfl
  | n + 1, f, g, h => by
    show sumN n f + f n = sumN n g + g n
    rw [sumN_congr n fun k hk => h k (by omega), h n (by omega)]
theorem sumN_lin (a b : Int) (f g : Nat → Int) : ∀ n, sumN n (fun k => a * f k + b * g k) = a * sumN n f + b * sumN n g
  | 0 => by show (0 : Int) = a * 0 + b * 0; omega
  | n + 1 => by
    show sumN n _ + (a * f n + b * g n) = a * (sumN n f + f n) + b * (sumN n g + g n)
    rw [sumN_lin a b f g n]
    grind
theorem sumN_zero : ∀ (n : Nat) {f : Nat → Int}, (∀ k, k < n → f k = 0) → sumN n f = 0
  | 0, _, _ => rfl
  | n + 1, f, h => by
    show sumN n f + f n = 0
    rw [sumN_zero n fun k hk => h k (by omega), h n (by omega)]
    rfl
theorem sumN_dvd {p : Int} : ∀ (n : Nat) {f : Nat → Int}, (∀ k, k < n → p ∣ f k) → p ∣ sumN n f
  | 0, _, _ => Int.dvd_zero p
  | n + 1, f, h => Int.dvd_add (sumN_dvd n fun k hk => h k (by omega)) (h n (by omega))
/-- one item apart -/
theorem sumN_one : ∀ (n : Nat) {x : Nat} (f : Nat → Int), x < n → sumN n f = sumN n (fun k => if k = x then 0 else f k) + f x
  | 0, x, f, h => by omega
  | n + 1, x, f, h => by
    show sumN n f + f n = (sumN n (fun k => if k = x then 0 else f k) + if n = x then 0 else f n) + f x
    by_cases e : n = x
    · subst e
      rw [if_pos rfl, sumN_congr n (f := fun k => if k = n then 0 else f k) (g := f) fun k hk => if_neg (by omega)]
      omega
    · rw [if_neg e, sumN_one n f (show x < n by omega)]
      omega
theorem sumN_pick (n : Nat) {x : Nat} (f : Nat → Int) (b : Int) (h : x < n) : sumN n (fun k => f k * if k = x then b else 0) = f x * b := by
  rw [sumN_one n _ h, sumN_zero n fun k hk => ?_, if_pos rfl]
  · omega
  · by_cases e : k = x
    · rw [if_pos e]
    · rw [if_neg e, if_neg e, Int.mul_zero]
def comb (n : Nat) (r : Nat → Vec) (c : Nat → Int) : Vec := fun i => sumN n fun k => c k * r k i
theorem comb_lin (n : Nat) (r : Nat → Vec) (a b : Int) (c d : Nat → Int) (i : Nat) : comb n r (fun k => a * c k + b * d k) i = a * comb n r c i + b * comb n r d i := by
  show sumN n (fun k => (a * c k + b * d k) * r k i) = a * sumN n (fun k => c k * r k i) + b * sumN n (fun k => d k * r k i)
  rw [← sumN_lin]
  exact sumN_congr n fun k _ => by grind
theorem comb_cong {p : Int} (n : Nat) (r : Nat → Vec) {c d : Nat → Int} (h : ∀ k, k < n → p ∣ c k - d k) (i : Nat) : p ∣ comb n r c i - comb n r d i := by
  have e : comb n r c i - comb n r d i = sumN n fun k => (c k - d k) * r k i := by
    have := sumN_lin 1 (-1) (fun k => c k * r k i) (fun k => d k * r k i) n
    have e2 : sumN n (fun k => (c k - d k) * r k i) = sumN n (fun k => 1 * (c k * r k i) + -1 * (d k * r k i)) := sumN_congr n fun k _ => by grind
    rw [e2, this]
    show sumN n (fun k => c k * r k i) - sumN n (fun k => d k * r k i) = _
    omega
  rw [e]
  exact sumN_dvd n fun k hk => Int.dvd_mul_of_dvd_left (h k hk)
theorem sp_comb {p : Int} {G : Vec → Prop} (r : Nat → Vec) (c : Nat → Int) : ∀ n, (∀ k, k < n → p ∣ c k ∨ Spn p G (r k)) → Spn p G (comb n r c)
  | 0, _ => .zero _ fun i => Int.dvd_zero p
  | n + 1, h => by
    have ih := sp_comb r c n fun k hk => h k (by omega)
    rcases h n (by omega) with q | q
    · exact ih.like fun i => dv1 (r n i) q (by show (sumN n _ + c n * r n i) - sumN n _ = _; grind)
    · exact .comb 1 (c n) _ _ _ ih q fun i => dv0 (by show (sumN n _ + c n * r n i) - (1 * sumN n _ + _) = _; grind)
/-- a relation: whoever has a part in it is made of the others -/
theorem rel_made {p : Int} {n x : Nat} {r : Nat → Vec} {c : Nat → Int} {S : Nat → Prop} (hx : x < n) (hc : ¬ p ∣ c x) (h0 : ∀ i, p ∣ comb n r c i) (hs : ∀ k, k < n → k ≠ x → ¬ p ∣ c k → S k) : cl p r S x := by
  have s : Spn p (rowsIn r S) (comb n r fun k => if k = x then 0 else c k) := sp_comb r _ n fun k hk => by
    by_cases e : k = x
    · simp only [if_pos e]; exact .inl (Int.dvd_zero p)
    · simp only [if_neg e]
      by_cases q : p ∣ c k
      · exact .inl q
      · exact .inr (.gen _ ⟨k, hs k hk e q, rfl⟩)
  refine .over (c x) (-1) 0 hc s s fun i => dv1 1 (h0 i) ?_
  have e : comb n r c i = comb n r (fun k => if k = x then 0 else c k) i + c x * r x i := by
    show sumN n (fun k => c k * r k i) = sumN n (fun k => (if k = x then 0 else c k) * r k i) + _
    rw [sumN_one n _ hx, sumN_congr n (f := fun k => if k = x then 0 else c k * r k i) fun k _ => ?_]
    by_cases e : k = x
    · rw [if_pos e, if_pos e, Int.zero_mul]
    · rw [if_neg e, if_neg e]
  grind
/-- what is made of rows has multipliers -/
theorem made_rel {p : Int} (f : Fld p) {n : Nat} {r : Nat → Vec} {S : Nat → Prop} (hS : ∀ k, S k → k < n) {v : Vec} (s : Spn p (rowsIn r S) v) : ∃ (c0 : Int) (c : Nat → Int), ¬ p ∣ c0 ∧ (∀ k, c k ≠ 0 → S k) ∧ ∀ i, p ∣ c0 * v i - comb n r c i := by
  induction s with
  | zero v h => exact ⟨1, fun _ => 0, f.one, fun k hk => absurd rfl hk, fun i => dv1 1 (h i) (by rw [show comb n r (fun _ => 0) i = 0 from sumN_zero n fun k _ => Int.zero_mul _]; grind)⟩
  | gen v h =>
    obtain ⟨k, hk, e⟩ := h
    refine ⟨1, fun j => if j = k then 1 else 0, f.one, fun j hj => ?_, fun i => dv0 ?_⟩
    · by_cases q : j = k
      · rw [q]; exact hk
      · exact absurd (if_neg q) hj
    · have e2 : comb n r (fun j => if j = k then 1 else 0) i = r k i * 1 := by
        rw [← sumN_pick n (fun j => r j i) 1 (hS k hk)]
        exact sumN_congr n fun j _ => Int.mul_comm _ _
      rw [e2, e]; grind
  | comb a b u v w _ _ h i1 i2 =>
    obtain ⟨c1, d1, n1, z1, s1⟩ := i1
    obtain ⟨c2, d2, n2, z2, s2⟩ := i2
    refine ⟨c1 * c2, fun k => a * c2 * d1 k + b * c1 * d2 k, f.nz n1 n2, fun k hk => ?_, fun i => ?_⟩
    · by_cases q : d1 k = 0
      · by_cases q2 : d2 k = 0
        · exact absurd (show a * c2 * d1 k + b * c1 * d2 k = 0 by rw [q, q2]; omega) hk
        · exact z2 k q2
      · exact z1 k q
    · rw [comb_lin n r (a * c2) (b * c1) d1 d2 i]
      exact dv3 (c1 * c2) (a * c2) (b * c1) (h i) (s1 i) (s2 i) (by grind)
  | div c v h _ i =>
    obtain ⟨c0, d, n0, z, s⟩ := i
    exact ⟨c0 * c, d, f.nz n0 h, z, fun i => dv1 1 (s i) (by grind)⟩
end FL
/-! Elimination: what is left of a row, its relation; the steps of a copy. Plain Lean, no program. -/
namespace FL
abbrev Step3 := Nat × Vec × (Nat → Int)
abbrev knowns (S : List Step3) : Vec → Prop := fun v => ∃ s, s ∈ S ∧ v = s.2.1
structure Elim (p : Int) (n : Nat) (r : Nat → Vec) (lot : List Nat) (S : List Step3) : Prop where
  co : ∀ s, s ∈ S → ∀ i, p ∣ s.2.1 i - comb n r s.2.2 i
  sup : ∀ s, s ∈ S → ∀ k, s.2.2 k ≠ 0 → k ∈ lot
  ld : ∀ s, s ∈ S → ¬ p ∣ s.2.1 s.1
  tri : S.Pairwise fun s t => p ∣ t.2.1 s.1
  spn : ∀ k, k ∈ lot → Spn p (knowns S) (r k)
structure Red (p : Int) (n : Nat) (r : Nat → Vec) (lot : List Nat) (x : Nat) (S : List Step3) (v : Vec) (c : Nat → Int) : Prop where
  co : ∀ i, p ∣ v i - comb n r c i
  sup : ∀ k, c k ≠ 0 → k ∈ lot ∨ k = x
  nz : ¬ p ∣ c x
  van : ∀ s, s ∈ S → p ∣ v s.1
  spn : Spn p (fun u => knowns S u ∨ u = v) (r x)
section
variable {p : Int} {n x : Nat} {r : Nat → Vec} {lot : List Nat} {S T : List Step3} {s : Step3} {v v' : Vec} {c c' : Nat → Int}
theorem elim_start : Elim p n r [] [] := ⟨fun s h => by simp at h, fun s h => by simp at h, fun s h => by simp at h, List.Pairwise.nil, fun s h => by simp at h⟩
theorem comb_one (hx : x < n) (i : Nat) : comb n r (fun k => if k = x then 1 else 0) i = r x i := by
  have : comb n r (fun k => if k = x then 1 else 0) i = r x i * 1 := by
    rw [← sumN_pick n (fun j => r j i) 1 hx]
    exact sumN_congr n fun j _ => Int.mul_comm _ _
  rw [this, Int.mul_one]
theorem red_start (f : Fld p) (hx : x < n) : Red p n r lot x [] (r x) (fun k => if k = x then 1 else 0) := by
  refine ⟨fun i => dv0 ?_, fun k hk => ?_, by rw [if_pos rfl]; exact f.one, fun s h => by simp at h, .gen _ (.inr rfl)⟩
  · rw [comb_one hx]; omega
  · by_cases e : k = x
    · exact .inr e
    · exact absurd (if_neg e) hk
theorem Red.skip (R : Red p n r lot x S v c) (h : p ∣ v s.1) : Red p n r lot x (S ++ [s]) v c := by
  refine ⟨R.co, R.sup, R.nz, fun t ht => ?_, R.spn.mono fun u hu => hu.imp (fun ⟨t, ht, e⟩ => ⟨t, List.mem_append_left _ ht, e⟩) id⟩
  rcases List.mem_append.mp ht with ht | ht
  · exact R.van t ht
  · rw [List.mem_singleton] at ht
    rw [ht]; exact h
theorem Red.step (f : Fld p) (E : Elim p n r lot (S ++ s :: T)) (R : Red p n r lot x S v c) (xl : x ∉ lot) {e : Int} (he : ¬ p ∣ e) (hv : ∀ i, p ∣ e * v' i - (s.2.1 s.1 * v i - v s.1 * s.2.1 i))
    (hc : ∀ k, p ∣ e * c' k - (s.2.1 s.1 * c k - v s.1 * s.2.2 k)) (hz : ∀ k, c k = 0 → s.2.2 k = 0 → c' k = 0) : Red p n r lot x (S ++ [s]) v' c' := by
  have ms : s ∈ S ++ s :: T := List.mem_append_right _ List.mem_cons_self
  have up := E.ld s ms
  have sx : s.2.2 x = 0 := Classical.byContradiction fun q => xl (E.sup s ms x q)
  refine ⟨fun i => ?_, fun k hk => ?_, fun q => ?_, fun t ht => ?_, ?_⟩
  · -- e * (v' - comb c') is like up * (v - comb c) - down * (known - comb m)
    have h1 := comb_cong n r (c := fun k => e * c' k + 0 * c' k) (d := fun k => s.2.1 s.1 * c k + (- v s.1) * s.2.2 k) (fun k _ => dv1 1 (hc k) (by grind)) i
    rw [comb_lin, comb_lin] at h1
    have h2 := dv2 (s.2.1 s.1) (- v s.1) (R.co i) (E.co s ms i) rfl
    have h3 : p ∣ e * (v' i - comb n r c' i) := dv3 1 (-1) 1 (hv i) h1 h2 (by grind)
    exact (f.mul _ _ h3).resolve_left he
  · by_cases q : c k = 0
    · by_cases q2 : s.2.2 k = 0
      · exact absurd (hz k q q2) hk
      · exact .inl (E.sup s ms k q2)
    · exact R.sup k q
  · have h1 := hc x
    rw [sx] at h1
    have h2 : p ∣ s.2.1 s.1 * c x := dv2 e (-1) q h1 (by grind)
    exact f.nz up R.nz h2
  · have h1 : p ∣ e * v' t.1 := by
      rcases List.mem_append.mp ht with ht | ht
      · have tr : p ∣ s.2.1 t.1 := (List.pairwise_append.mp E.tri).2.2 t ht s List.mem_cons_self
        exact dv3 1 (s.2.1 s.1) (- v s.1) (hv t.1) (R.van t ht) tr (by grind)
      · rw [List.mem_singleton] at ht
        rw [ht]
        exact dv1 1 (hv s.1) (by grind)
    exact (f.mul _ _ h1).resolve_left he
  · refine R.spn.bind fun u hu => ?_
    rcases hu with ⟨t, ht, e⟩ | hu
    · exact .gen _ (.inl ⟨t, List.mem_append_left _ ht, e⟩)
    · rw [hu]
      exact .over (s.2.1 s.1) e (v s.1) up (.gen v' (.inr rfl)) (.gen s.2.1 (.inl ⟨s, List.mem_append_right _ (List.mem_singleton.mpr rfl), rfl⟩)) fun i => dv1 (-1) (hv i) (by grind)
/-- what vanishes at each lead and is made of the knowns is zero -/
theorem tri_zero (f : Fld p) : ∀ (S : List Step3), (∀ s, s ∈ S → ¬ p ∣ s.2.1 s.1) → (S.Pairwise fun s t => p ∣ t.2.1 s.1) → ∀ {v : Vec}, (∀ s, s ∈ S → p ∣ v s.1) → Spn p (knowns S) v → ∀ i, p ∣ v i
  | [], _, _, v, _, h => by
    have h2 : ∀ i, p ∣ v i := by
      induction h with
      | zero v h => exact h
      | gen v h => obtain ⟨s, hs, _⟩ := h; simp at hs
      | comb a b u v w _ _ h i1 i2 => exact fun i => dv3 1 a b (h i) (i1 (fun s hs => by simp at hs) i) (i2 (fun s hs => by simp at hs) i) (by grind)
      | div c v h _ i => exact fun j => (f.mul c _ (i (fun s hs => by simp at hs) j)).resolve_left h
    exact h2
  | s :: S, ld, tri, v, van, h => by
    have tri' := List.pairwise_cons.mp tri
    obtain ⟨c0, d, n0, h1⟩ := (h.mono (G' := fun u => knowns S u ∨ u = s.2.1) fun u ⟨t, ht, e⟩ => by
      rcases List.mem_cons.mp ht with q | ht
      · exact .inr (by rw [e, q])
      · exact .inl ⟨t, ht, e⟩).split f
    have k0 : p ∣ c0 * v s.1 - d * s.2.1 s.1 := Lin.kill f (Lin.coord s.1) (fun u ⟨t, ht, e⟩ => by rw [e]; exact tri'.1 t ht) h1
    have k1 : p ∣ d * s.2.1 s.1 := dv2 c0 (-1) (van s List.mem_cons_self) k0 (by grind)
    have hd : p ∣ d := (f.mul _ _ k1).resolve_right (ld s List.mem_cons_self)
    have h2 : Spn p (knowns S) v := .div c0 v n0 (h1.like fun i => dv1 (s.2.1 i) hd (by grind))
    exact tri_zero f S (fun t ht => ld t (List.mem_cons_of_mem _ ht)) tri'.2 (fun t ht => van t (List.mem_cons_of_mem _ ht)) h2
/-- nothing is left: a relation -/
theorem Red.made (hx : x < n) (R : Red p n r lot x S v c) (h : ∀ i, p ∣ v i) : (∀ i, p ∣ comb n r c i) := fun i => dv2 1 (-1) (h i) (R.co i) (by grind)
/-- something is left: not made -/
theorem Red.unmade (f : Fld p) (E : Elim p n r lot S) (lt : ∀ k, k ∈ lot → k < n) (hx : x < n) (R : Red p n r lot x S v c) {i : Nat} (h : ¬ p ∣ v i) : ¬ cl p r (fun k => k ∈ lot) x := fun cx => by
  have toK : ∀ k, k ∈ lot → Spn p (knowns S) (r k) := E.spn
  have sx : Spn p (knowns S) (r x) := cx.bind fun u ⟨k, hk, e⟩ => by rw [e]; exact toK k hk
  have sc : Spn p (knowns S) (comb n r c) := sp_comb r c n fun k hk => by
    by_cases q : c k = 0
    · exact .inl (by rw [q]; exact Int.dvd_zero p)
    · rcases R.sup k q with hk | e
      · exact .inr (toK k hk)
      · exact .inr (e ▸ sx)
  exact h (tri_zero f S E.ld E.tri R.van (sc.like R.co) i)
theorem Elim.add (E : Elim p n r lot S) (R : Red p n r lot x S v c) {l : Nat} (h : ¬ p ∣ v l) : Elim p n r (lot ++ [x]) (S ++ [(l, v, c)]) := by
  have km : ∀ u, knowns S u → knowns (S ++ [(l, v, c)]) u := fun u ⟨t, ht, e⟩ => ⟨t, List.mem_append_left _ ht, e⟩
  have two : ∀ s, s ∈ S ++ [(l, v, c)] → s ∈ S ∨ s = (l, v, c) := fun s hs => by
    rcases List.mem_append.mp hs with hs | hs
    · exact .inl hs
    · exact .inr (List.mem_singleton.mp hs)
  refine ⟨fun s hs => ?_, fun s hs k hk => ?_, fun s hs => ?_, ?_, fun k hk => ?_⟩
  · rcases two s hs with hs | e
    · exact E.co s hs
    · rw [e]; exact R.co
  · rcases two s hs with hs | e
    · exact List.mem_append_left _ (E.sup s hs k hk)
    · rw [e] at hk
      rcases R.sup k hk with q | q
      · exact List.mem_append_left _ q
      · exact List.mem_append_right _ (List.mem_singleton.mpr q)
  · rcases two s hs with hs | e
    · exact E.ld s hs
    · rw [e]; exact h
  · refine List.pairwise_append.mpr ⟨E.tri, by simp, fun s hs t ht => ?_⟩
    rw [List.mem_singleton] at ht
    rw [ht]; exact R.van s hs
  · rcases List.mem_append.mp hk with hk | hk
    · exact (E.spn k hk).mono km
    · rw [List.mem_singleton] at hk
      rw [hk]
      exact R.spn.mono fun u hu => hu.elim (km u) fun e => ⟨_, List.mem_append_right _ (List.mem_singleton.mpr rfl), e⟩
theorem Elim.same (E : Elim p n r lot S) (R : Red p n r lot x S v c) (h : ∀ i, p ∣ v i) : Elim p n r (lot ++ [x]) S := by
  refine ⟨E.co, fun s hs k hk => List.mem_append_left _ (E.sup s hs k hk), E.ld, E.tri, fun k hk => ?_⟩
  rcases List.mem_append.mp hk with hk | hk
  · exact E.spn k hk
  · rw [List.mem_singleton] at hk
    rw [hk]
    exact R.spn.bind fun u hu => hu.elim (fun q => .gen _ q) fun e => by rw [e]; exact .zero _ h
/-- what a relation tells: its rows, in all -/
structure RelOk (p : Int) (n : Nat) (r : Nat → Vec) (lot : List Nat) (x : Nat) (Z : List Nat) : Prop where
  nd : Z.Nodup
  self : x ∈ Z
  sub : ∀ k, k ∈ Z → k ∈ lot ∨ k = x
  rel : ∃ c : Nat → Int, (∀ k, k ∈ Z → ¬ p ∣ c k) ∧ (∀ k, k ∉ Z → c k = 0) ∧ ∀ i, p ∣ comb n r c i
theorem RelOk.made (R : RelOk p n r lot x Z) (lt : ∀ k, k ∈ Z → k < n) {y : Nat} (hy : y ∈ Z) : cl p r (fun k => k ∈ Z ∧ k ≠ y) y := by
  obtain ⟨c, c1, c2, c3⟩ := R.rel
  exact rel_made (lt y hy) (c1 y hy) c3 fun k _ ne q => ⟨Classical.byContradiction fun m => q (by rw [c2 k m]; exact Int.dvd_zero p), ne⟩
end
/-! ### the steps of a copy, over kept rows -/
section
variable {p : Int} {n : Nat} {r : Nat → Vec} {f : Nat → Nat} {K : List Nat} {l : List Nat} {t : Nat}
/-- the rows that stand in a base of copies -/
abbrev rowsOf (f : Nat → Nat) (K l : List Nat) : List Nat := K ++ l.map f
theorem pull_rows : pull f (cl p r) (fun k => k ∈ K) (fun s => s ∈ l) t ↔ cl p r (fun k => k ∈ rowsOf f K l) (f t) := by
  have e : (fun k => k ∈ K ∨ ∃ s, s ∈ l ∧ f s = k) = fun k => k ∈ rowsOf f K l := by
    funext k
    simp [rowsOf]
  unfold pull
  rw [e]
/-- the row stands there: its copy is the step -/
theorem stp_copy (fp : Fld p) (nl : l.Nodup) (i : Ind (pull f (cl p r) fun k => k ∈ K) fun s => s ∈ l) (ht : t ∉ l) {s : Nat} (hs : s ∈ l) (e : f s = f t) : Stp (pull f (cl p r) fun k => k ∈ K) (fun s => s ∈ l) t [s] := by
  have h := cl_clo fp r
  refine ⟨by simp, .inr ⟨ht, fun y hy => by rw [List.mem_singleton] at hy; rw [hy]; exact hs, ?_, fun y hy c => ?_⟩⟩
  · exact h.ext (.inr ⟨s, List.mem_singleton.mpr rfl, e⟩)
  · rw [List.mem_singleton] at hy
    subst hy
    refine i y hs ?_
    show cl p r _ (f y)
    rw [e]
    exact c
/-- the steps by a relation -/
theorem stp_rel (fp : Fld p) (i : Ind (pull f (cl p r) fun k => k ∈ K) fun s => s ∈ l) (ht : t ∉ l) {Z : List Nat} (R : RelOk p n r (rowsOf f K l) (f t) Z) (lt : ∀ k, k ∈ Z → k < n)
    {Y : List Nat} (nY : Y.Nodup) (mY : ∀ y, y ∈ Y ↔ y ∈ l ∧ f y ∈ Z) (hrow : ∀ s, s ∈ l → f s ≠ f t) : Stp (pull f (cl p r) fun k => k ∈ K) (fun s => s ∈ l) t Y := by
  have h := cl_clo fp r
  refine ⟨nY, .inr ⟨ht, fun y hy => ((mY y).mp hy).1, ?_, fun y hy c => ?_⟩⟩
  · refine h.mono (fun k hk => ?_) (R.made lt R.self)
    rcases R.sub k hk.1 with q | q
    · rcases List.mem_append.mp q with q | q
      · exact .inl q
      · obtain ⟨s, hs, e⟩ := List.mem_map.mp q
        exact .inr ⟨s, (mY s).mpr ⟨hs, e ▸ hk.1⟩, e⟩
    · exact absurd q hk.2
  · obtain ⟨yl, yZ⟩ := (mY y).mp hy
    refine i y yl (h.trans (T := fun k => k ∈ Z ∧ k ≠ f y) (fun k hk => ?_) (R.made lt yZ))
    rcases R.sub k hk.1 with q | q
    · rcases List.mem_append.mp q with q | q
      · exact h.ext (.inl q)
      · obtain ⟨s, hs, e⟩ := List.mem_map.mp q
        exact h.ext (.inr ⟨s, ⟨hs, fun e2 => hk.2 (by rw [← e, e2])⟩, e⟩)
    · subst q
      exact c
end
/-! ### the fields -/
theorem fld_zero : Fld 0 := ⟨by decide, fun a b h => by
  rw [Int.zero_dvd] at *
  rw [Int.zero_dvd]
  exact Int.mul_eq_zero.mp h⟩
theorem fld_of {p : Nat} (hp : 1 < p) (h : ∀ a b : Fin p, (a.val * b.val) % p = 0 → a.val = 0 ∨ b.val = 0) : Fld (p : Int) := by
  have h0 : (0 : Int) < p := by omega
  refine ⟨fun c => ?_, fun a b c => ?_⟩
  · have := Int.le_of_dvd (by decide) c
    omega
  · have ha := Int.emod_nonneg a (show (p : Int) ≠ 0 by omega)
    have ha2 := Int.emod_lt_of_pos a h0
    have hb := Int.emod_nonneg b (show (p : Int) ≠ 0 by omega)
    have hb2 := Int.emod_lt_of_pos b h0
    have key := h ⟨(a % p).toNat, by omega⟩ ⟨(b % p).toNat, by omega⟩ (by
      show ((a % p).toNat * (b % p).toNat) % p = 0
      have e : (((a % p).toNat * (b % p).toNat : Nat) : Int) % p = 0 := by
        rw [Int.natCast_mul, Int.toNat_of_nonneg ha, Int.toNat_of_nonneg hb, ← Int.mul_emod]
        exact Int.emod_eq_zero_of_dvd c
      omega)
    rcases key with k | k
    · have k : (a % p).toNat = 0 := k
      exact .inl (Int.dvd_of_emod_eq_zero (by omega))
    · have k : (b % p).toNat = 0 := k
      exact .inr (Int.dvd_of_emod_eq_zero (by omega))
def fields : List Int := [0, 2, 3, 5, 7, 11, 13]
theorem fld_mem {p : Int} (h : p ∈ fields) : Fld p := by
  simp only [fields, List.mem_cons, List.not_mem_nil, or_false] at h
  rcases h with h | h | h | h | h | h | h <;> subst h
  · exact fld_zero
  · exact fld_of (p := 2) (by decide) (by decide)
  · exact fld_of (p := 3) (by decide) (by decide)
  · exact fld_of (p := 5) (by decide) (by decide)
  · exact fld_of (p := 7) (by decide) (by decide)
  · exact fld_of (p := 11) (by decide) (by decide)
  · exact fld_of (p := 13) (by decide) (by decide)
theorem fld_nn {p : Int} (h : p ∈ fields) : 0 ≤ p ∧ p ≤ 13 := by
  simp only [fields, List.mem_cons, List.not_mem_nil, or_false] at h
  omega
end FL
/-! The table whose rows are orthogonal to the columns of another one; the closures are turned about. Plain Lean, no program. -/
namespace FL
abbrev Lead := Nat × Vec
def colv (n : Nat) (r : Nat → Vec) (i : Nat) : Vec := fun k => if k < n then r k i else 0
abbrev colsIn (n : Nat) (r : Nat → Vec) : Vec → Prop := fun u => ∃ i, u = colv n r i
abbrev leadRows (F : List Lead) : Vec → Prop := fun u => ∃ s, s ∈ F ∧ u = s.2
structure Jord (p : Int) (n : Nat) (r : Nat → Vec) (m : Nat) (F : List Lead) : Prop where
  lt : ∀ s, s ∈ F → s.1 < n
  ld : ∀ s, s ∈ F → ¬ p ∣ s.2 s.1
  nd : (F.map (·.1)).Nodup
  jor : ∀ s, s ∈ F → ∀ t, t ∈ F → s.1 ≠ t.1 → p ∣ t.2 s.1
  inC : ∀ s, s ∈ F → Spn p (colsIn n r) s.2
  spn : ∀ i, i < m → Spn p (leadRows F) (colv n r i)
structure JRed (p : Int) (n : Nat) (r : Nat → Vec) (m : Nat) (F S : List Lead) (v : Vec) : Prop where
  inC : Spn p (colsIn n r) v
  spn : Spn p (fun u => leadRows F u ∨ u = v) (colv n r m)
  van : ∀ s, s ∈ S → p ∣ v s.1
section
variable {p : Int} {n m : Nat} {r : Nat → Vec} {F S T G : List Lead} {s : Lead} {v v' : Vec}
theorem jord_start : Jord p n r 0 [] := ⟨fun s h => by simp at h, fun s h => by simp at h, List.nodup_nil, fun s h => by simp at h, fun s h => by simp at h, fun i h => by omega⟩
theorem jred_start (h : ∀ k, p ∣ v k - colv n r m k) : JRed p n r m F [] v := by
  have e : Spn p (colsIn n r) (colv n r m) := .gen _ ⟨m, rfl⟩
  exact ⟨e.like h, (Spn.gen v (.inr rfl)).like fun i => dv1 (-1) (h i) (by grind), fun s h => by simp at h⟩
theorem JRed.skip (R : JRed p n r m F S v) (h : p ∣ v s.1) : JRed p n r m F (S ++ [s]) v := ⟨R.inC, R.spn, fun t ht => by
  rcases List.mem_append.mp ht with ht | ht
  · exact R.van t ht
  · rw [List.mem_singleton] at ht
    rw [ht]; exact h⟩
theorem JRed.step (f : Fld p) (J : Jord p n r m F) (R : JRed p n r m F S v) (eF : F = S ++ s :: T) {e : Int} (he : ¬ p ∣ e) (hv : ∀ i, p ∣ e * v' i - (s.2 s.1 * v i - v s.1 * s.2 i)) : JRed p n r m F (S ++ [s]) v' := by
  have ms : s ∈ F := by rw [eF]; exact List.mem_append_right _ List.mem_cons_self
  have up := J.ld s ms
  refine ⟨.over e (s.2 s.1) (- v s.1) he R.inC (J.inC s ms) fun i => dv1 1 (hv i) (by grind), R.spn.bind fun u hu => ?_, fun t ht => ?_⟩
  · rcases hu with hu | hu
    · exact .gen _ (.inl hu)
    · rw [hu]
      exact .over (s.2 s.1) e (v s.1) up (.gen v' (.inr rfl)) (.gen s.2 (.inl ⟨s, ms, rfl⟩)) fun i => dv1 (-1) (hv i) (by grind)
  · have h1 : p ∣ e * v' t.1 := by
      rcases List.mem_append.mp ht with ht | ht
      · have mt : t ∈ F := by rw [eF]; exact List.mem_append_left _ ht
        have nd := J.nd
        have ne : t.1 ≠ s.1 := by
          rw [eF, List.map_append, List.map_cons] at nd
          exact (List.nodup_append.mp nd).2.2 _ (List.mem_map.mpr ⟨t, ht, rfl⟩) _ List.mem_cons_self
        exact dv3 1 (s.2 s.1) (- v s.1) (hv t.1) (R.van t ht) (J.jor t mt s ms ne) (by grind)
      · rw [List.mem_singleton] at ht
        rw [ht]
        exact dv1 1 (hv s.1) (by grind)
    exact (f.mul _ _ h1).resolve_left he
theorem Jord.same (J : Jord p n r m F) (R : JRed p n r m F F v) (h : ∀ i, p ∣ v i) : Jord p n r (m + 1) F := by
  refine ⟨J.lt, J.ld, J.nd, J.jor, J.inC, fun i hi => ?_⟩
  by_cases e : i = m
  · rw [e]
    exact R.spn.bind fun u hu => hu.elim (fun q => .gen _ q) fun e => by rw [e]; exact .zero _ h
  · exact J.spn i (by omega)
theorem Jord.add (f : Fld p) (J : Jord p n r m F) (R : JRed p n r m F F v) {l : Nat} (hl : l < n) (h : ¬ p ∣ v l) (hG : G.length = F.length)
    (hg : ∀ (i : Nat) (s : Lead), F[i]? = some s → ∃ g, G[i]? = some g ∧ g.1 = s.1 ∧ ∃ e : Int, ¬ p ∣ e ∧ ∀ k, p ∣ e * g.2 k - (v l * s.2 k - s.2 l * v k)) : Jord p n r (m + 1) (G ++ [(l, v)]) := by
  have toG : ∀ s, s ∈ F → ∃ g, g ∈ G ∧ g.1 = s.1 ∧ ∃ e : Int, ¬ p ∣ e ∧ ∀ k, p ∣ e * g.2 k - (v l * s.2 k - s.2 l * v k) := fun s hs => by
    obtain ⟨i, hi⟩ := List.getElem?_of_mem hs
    obtain ⟨g, h1, h2⟩ := hg i s hi
    exact ⟨g, List.mem_of_getElem? h1, h2⟩
  have ofG : ∀ g, g ∈ G → ∃ s, s ∈ F ∧ g.1 = s.1 ∧ ∃ e : Int, ¬ p ∣ e ∧ ∀ k, p ∣ e * g.2 k - (v l * s.2 k - s.2 l * v k) := fun g hm => by
    obtain ⟨i, hi⟩ := List.getElem?_of_mem hm
    have hlt : i < F.length := by rw [← hG]; exact (List.getElem?_eq_some_iff.mp hi).1
    obtain ⟨g', h1, h2⟩ := hg i F[i] (List.getElem?_eq_getElem hlt)
    rw [hi] at h1
    cases h1
    exact ⟨F[i], List.getElem_mem hlt, h2⟩
  have eL : G.map (·.1) = F.map (·.1) := by
    apply List.ext_getElem?
    intro i
    rw [List.getElem?_map, List.getElem?_map]
    cases e : F[i]? with
    | none =>
      have : G[i]? = none := List.getElem?_eq_none_iff.mpr (by rw [hG]; exact List.getElem?_eq_none_iff.mp e)
      rw [this]
    | some s =>
      obtain ⟨g, h1, h2, _⟩ := hg i s e
      rw [h1]
      exact congrArg some h2
  have nl : ∀ s, s ∈ F → s.1 ≠ l := fun s hs e => h (e ▸ R.van s hs)
  have ngl : ∀ g, g ∈ G → g.1 ≠ l := fun g hm => by
    obtain ⟨s, hs, e, _⟩ := ofG g hm
    rw [e]; exact nl s hs
  have cases2 : ∀ s, s ∈ G ++ [(l, v)] → s ∈ G ∨ s = (l, v) := fun s hs => by
    rcases List.mem_append.mp hs with hs | hs
    · exact .inl hs
    · exact .inr (List.mem_singleton.mp hs)
  have newIn : (l, v) ∈ G ++ [(l, v)] := List.mem_append_right _ (List.mem_singleton.mpr rfl)
  refine ⟨fun s hs => ?_, fun s hs => ?_, ?_, fun s hs t ht ne => ?_, fun s hs => ?_, fun i hi => ?_⟩
  · rcases cases2 s hs with hs | e
    · obtain ⟨q, hq, e, _⟩ := ofG s hs
      rw [e]; exact J.lt q hq
    · rw [e]; exact hl
  · rcases cases2 s hs with hs | e
    · obtain ⟨q, hq, e, e0, n0, h0⟩ := ofG s hs
      rw [e]
      intro c
      have h1 : p ∣ v l * q.2 q.1 := dv3 e0 (-1) (q.2 l) c (h0 q.1) (R.van q hq) (by grind)
      exact f.nz h (J.ld q hq) h1
    · rw [e]; exact h
  · rw [List.map_append, eL]
    refine List.nodup_append.mpr ⟨J.nd, by simp, fun x hx y hy e => ?_⟩
    obtain ⟨s, hs, e1⟩ := List.mem_map.mp hx
    have hy : y ∈ [l] := hy
    rw [List.mem_singleton] at hy
    exact nl s hs (by rw [e1, e, hy])
  · rcases cases2 s hs with hs | e
    · obtain ⟨q, hq, e, _⟩ := ofG s hs
      rcases cases2 t ht with ht | e2
      · obtain ⟨u, hu, e2, e0, n0, h0⟩ := ofG t ht
        rw [e]
        have nqu : q.1 ≠ u.1 := by rw [← e, ← e2]; exact ne
        have h1 : p ∣ e0 * t.2 q.1 := dv3 1 (v l) (- u.2 l) (h0 q.1) (J.jor q hq u hu nqu) (R.van q hq) (by grind)
        exact (f.mul _ _ h1).resolve_left n0
      · rw [e2, e]; exact R.van q hq
    · rcases cases2 t ht with ht | e2
      · obtain ⟨u, hu, e2, e0, n0, h0⟩ := ofG t ht
        rw [e]
        have h1 : p ∣ e0 * t.2 l := dv1 1 (h0 l) (by grind)
        exact (f.mul _ _ h1).resolve_left n0
      · rw [e, e2] at ne
        exact absurd rfl ne
  · rcases cases2 s hs with hs | e
    · obtain ⟨q, hq, e, e0, n0, h0⟩ := ofG s hs
      exact .over e0 (v l) (- q.2 l) n0 (J.inC q hq) R.inC fun i => dv1 1 (h0 i) (by grind)
    · rw [e]; exact R.inC
  · have up : ∀ u, leadRows F u → Spn p (leadRows (G ++ [(l, v)])) u := fun u ⟨q, hq, eu⟩ => by
      obtain ⟨g, hm, e, e0, n0, h0⟩ := toG q hq
      rw [eu]
      exact .over (v l) e0 (q.2 l) h (.gen g.2 ⟨g, List.mem_append_left _ hm, rfl⟩) (.gen v ⟨_, newIn, rfl⟩) fun i => dv1 (-1) (h0 i) (by grind)
    by_cases e : i = m
    · rw [e]
      exact R.spn.bind fun u hu => hu.elim (up u) fun e => .gen _ ⟨_, newIn, e⟩
    · exact (J.spn i (by omega)).bind up
end
/-! ### sums over the leads -/
def lsum (F : List Lead) (g : Lead → Int) : Int := (F.map g).foldr (· + ·) 0
theorem lsum_cons (s : Lead) (F : List Lead) (g : Lead → Int) : lsum (s :: F) g = g s + lsum F g := rfl
def lprod (F : List Lead) : Int := F.foldr (fun s a => s.2 s.1 * a) 1
def lrest (F : List Lead) (l : Nat) : Int := F.foldr (fun s a => (if s.1 = l then 1 else s.2 s.1) * a) 1
theorem lrest_out : ∀ (F : List Lead) (l : Nat), l ∉ F.map (·.1) → lrest F l = lprod F
  | [], _, _ => rfl
  | s :: F, l, h => by
    rw [List.map_cons, List.mem_cons] at h
    show (if s.1 = l then 1 else s.2 s.1) * lrest F l = s.2 s.1 * lprod F
    rw [lrest_out F l fun q => h (.inr q), if_neg fun e => h (.inl e.symm)]
theorem lprod_split : ∀ (F : List Lead), (F.map (·.1)).Nodup → ∀ s, s ∈ F → lprod F = s.2 s.1 * lrest F s.1
  | t :: F, nd, s, hs => by
    rw [List.map_cons, List.nodup_cons] at nd
    show t.2 t.1 * lprod F = s.2 s.1 * ((if t.1 = s.1 then 1 else t.2 t.1) * lrest F s.1)
    rcases List.mem_cons.mp hs with e | hs
    · rw [e, if_pos rfl, lrest_out F t.1 nd.1, Int.one_mul]
    · have ne : t.1 ≠ s.1 := fun e => nd.1 (List.mem_map.mpr ⟨s, hs, e.symm⟩)
      rw [if_neg ne, lprod_split F nd.2 s hs]
      grind
theorem lsum_dvd {p : Int} : ∀ (F : List Lead) (g : Lead → Int), (∀ s, s ∈ F → p ∣ g s) → p ∣ lsum F g
  | [], _, _ => Int.dvd_zero p
  | s :: F, g, h => Int.dvd_add (h s List.mem_cons_self) (lsum_dvd F g fun t ht => h t (List.mem_cons_of_mem _ ht))
/-- all but one vanish -/
theorem lsum_one {p : Int} : ∀ (F : List Lead) (g : Lead → Int), (F.map (·.1)).Nodup → ∀ s, s ∈ F → (∀ t, t ∈ F → t.1 ≠ s.1 → p ∣ g t) → p ∣ lsum F g - g s
  | t :: F, g, nd, s, hs, h => by
    rw [List.map_cons, List.nodup_cons] at nd
    rw [lsum_cons]
    rcases List.mem_cons.mp hs with e | hs
    · subst e
      exact dv1 1 (lsum_dvd F g fun u hu => h u (List.mem_cons_of_mem _ hu) fun e => nd.1 (List.mem_map.mpr ⟨u, hu, e⟩)) (by omega)
    · have ne : t.1 ≠ s.1 := fun e => nd.1 (List.mem_map.mpr ⟨s, hs, e.symm⟩)
      exact dv2 1 1 (h t List.mem_cons_self ne) (lsum_one F g nd.2 s hs fun u hu => h u (List.mem_cons_of_mem _ hu)) (by omega)
def dot (n : Nat) (x y : Vec) : Int := sumN n fun k => x k * y k
theorem dot_lin (y : Vec) : ∀ n, Lin fun x => dot n x y
  | 0 => by
    have e : (fun x : Vec => dot 0 x y) = fun x => 0 * x 0 + 0 * x 0 := by
      funext x
      show (0 : Int) = _
      omega
    rw [e]
    exact .comb 0 0 _ _ (.coord 0) (.coord 0)
  | n + 1 => by
    have e : (fun x : Vec => dot (n + 1) x y) = fun x => 1 * dot n x y + y n * x n := by
      funext x
      show dot n x y + x n * y n = _
      grind
    rw [e]
    exact .comb 1 (y n) _ _ (dot_lin y n) (.coord n)
/-- the column that belongs to a place that is no lead -/
def vf (F : List Lead) (f : Nat) : Vec := fun k => (if k = f then lprod F else 0) + lsum F fun s => if k = s.1 then - (s.2 f * lrest F s.1) else 0
theorem dot_vf (n : Nat) (x : Vec) (F0 F : List Lead) (f : Nat) (c : Int) (hf : f < n) (lt : ∀ s, s ∈ F → s.1 < n) :
    dot n x (fun k => (if k = f then c else 0) + lsum F fun s => if k = s.1 then - (s.2 f * lrest F0 s.1) else 0) = c * x f + lsum F fun s => - (s.2 f * lrest F0 s.1) * x s.1 := by
  induction F with
  | nil =>
    show sumN n (fun k => x k * ((if k = f then c else 0) + 0)) = c * x f + 0
    rw [sumN_congr n (g := fun k => x k * if k = f then c else 0) fun k _ => by rw [Int.add_zero], sumN_pick n x c hf]
    grind
  | cons s F ih =>
    have ih := ih fun t ht => lt t (List.mem_cons_of_mem _ ht)
    rw [lsum_cons]
    have e : dot n x (fun k => (if k = f then c else 0) + lsum (s :: F) fun s => if k = s.1 then - (s.2 f * lrest F0 s.1) else 0) =
        sumN n (fun k => 1 * (x k * if k = s.1 then - (s.2 f * lrest F0 s.1) else 0) + 1 * (x k * ((if k = f then c else 0) + lsum F fun s => if k = s.1 then - (s.2 f * lrest F0 s.1) else 0))) := sumN_congr n fun k _ => by
      show x k * ((if k = f then c else 0) + ((if k = s.1 then - (s.2 f * lrest F0 s.1) else 0) + lsum F fun s => if k = s.1 then - (s.2 f * lrest F0 s.1) else 0)) = _
      grind
    rw [e, sumN_lin, sumN_pick n x _ (lt s List.mem_cons_self)]
    have ih' : sumN n (fun k => x k * ((if k = f then c else 0) + lsum F fun s => if k = s.1 then - (s.2 f * lrest F0 s.1) else 0)) = c * x f + lsum F fun s => - (s.2 f * lrest F0 s.1) * x s.1 := ih
    rw [ih']
    grind
theorem dot_cong {p : Int} (n : Nat) (x : Vec) {y z : Vec} {e : Int} (h : ∀ k, k < n → p ∣ e * y k - z k) : p ∣ e * dot n x y - dot n x z := by
  have h2 : e * dot n x y - dot n x z = sumN n fun k => x k * (e * y k - z k) := by
    have := sumN_lin e (-1) (fun k => x k * y k) (fun k => x k * z k) n
    have h3 : sumN n (fun k => x k * (e * y k - z k)) = sumN n (fun k => e * (x k * y k) + -1 * (x k * z k)) := sumN_congr n fun k _ => by grind
    rw [h3, this]
    show e * sumN n (fun k => x k * y k) - sumN n (fun k => x k * z k) = _
    omega
  rw [h2]
  exact sumN_dvd n fun k hk => Int.dvd_mul_of_dvd_right (h k hk)
/-- the columns of the other table -/
structure Cols (p : Int) (n : Nat) (F : List Lead) (cs : List Vec) : Prop where
  one : ∀ c, c ∈ cs → ∃ f, f < n ∧ f ∉ F.map (·.1) ∧ ∃ e : Int, ¬ p ∣ e ∧ ∀ k, k < n → p ∣ e * c k - vf F f k
  all : ∀ f, f < n → f ∉ F.map (·.1) → ∃ c, c ∈ cs ∧ ∃ e : Int, ¬ p ∣ e ∧ ∀ k, k < n → p ∣ e * c k - vf F f k
section
variable {p : Int} {n m : Nat} {r r' : Nat → Vec} {F : List Lead} {cs : List Vec}
theorem orth_one (f : Fld p) (J : Jord p n r m F) (hr : ∀ k i, m ≤ i → r k i = 0) (K : Cols p n F cs) {c : Vec} (hc : c ∈ cs) (i : Nat) : p ∣ dot n (fun k => r k i) c := by
  obtain ⟨f0, hf, nf, e, he, hv⟩ := K.one c hc
  have h1 : p ∣ dot n (colv n r i) (vf F f0) := by
    by_cases hi : i < m
    · refine (dot_lin (vf F f0) n).kill f (G := leadRows F) (fun u ⟨s, hs, eu⟩ => ?_) (J.spn i hi)
      rw [eu]
      have e1 : dot n s.2 (vf F f0) = _ := dot_vf n s.2 F F f0 (lprod F) hf J.lt
      have h2 := lsum_one (p := p) F (fun t => - (t.2 f0 * lrest F t.1) * s.2 t.1) J.nd s hs fun t ht ne => Int.dvd_mul_of_dvd_right (J.jor t ht s hs ne)
      rw [e1]
      refine dv1 1 h2 ?_
      rw [lprod_split F J.nd s hs]
      grind
    · refine dv0 (sumN_zero n fun k _ => ?_)
      show (if k < n then r k i else 0) * _ = 0
      rw [hr k i (by omega)]
      by_cases q : k < n
      · rw [if_pos q, Int.zero_mul]
      · rw [if_neg q, Int.zero_mul]
  have h2 := dot_cong n (colv n r i) hv
  have h3 : p ∣ e * dot n (colv n r i) c := dv2 1 1 h2 h1 (by grind)
  have e4 : dot n (colv n r i) c = dot n (fun k => r k i) c := sumN_congr n fun k hk => by
    show (if k < n then r k i else 0) * _ = _
    rw [if_pos hk]
  rw [e4] at h3
  exact (f.mul _ _ h3).resolve_left he
theorem orth_two (f : Fld p) (J : Jord p n r m F) (K : Cols p n F cs) {d : Vec} (hd : ∀ c, c ∈ cs → p ∣ dot n d c) : Spn p (colsIn n r) fun k => if k < n then d k else 0 := by
  have np : ¬ p ∣ lprod F := by
    have : ∀ F : List Lead, (∀ s, s ∈ F → ¬ p ∣ s.2 s.1) → ¬ p ∣ lprod F := by
      intro F
      induction F with
      | nil => intro _; exact f.one
      | cons s F ih => intro h; exact f.nz (h s List.mem_cons_self) (ih fun t ht => h t (List.mem_cons_of_mem _ ht))
    exact this F J.ld
  have sD : ∀ F0 G : List Lead, (∀ s, s ∈ G → Spn p (colsIn n r) s.2) → Spn p (colsIn n r) fun k => lsum G fun s => lrest F0 s.1 * d s.1 * s.2 k := by
    intro F0 G
    induction G with
    | nil => intro _; exact .zero _ fun i => Int.dvd_zero p
    | cons s G ih => intro h; exact .comb (lrest F0 s.1 * d s.1) 1 _ _ _ (h s List.mem_cons_self) (ih fun t ht => h t (List.mem_cons_of_mem _ ht)) fun i => dv0 (by rw [lsum_cons]; omega)
  have s1 := sD F F J.inC
  refine .over (lprod F) 1 0 np s1 s1 fun k => ?_
  by_cases hk : k < n
  · rw [if_pos hk]
    by_cases q : k ∈ F.map (·.1)
    · obtain ⟨s, hs, e⟩ := List.mem_map.mp q
      have e : s.1 = k := e
      subst e
      have h2 := lsum_one (p := p) F (fun t => lrest F t.1 * d t.1 * t.2 s.1) J.nd s hs fun t ht ne => Int.dvd_mul_of_dvd_right (J.jor s hs t ht ne.symm)
      refine dv1 (-1) h2 ?_
      rw [lprod_split F J.nd s hs]
      grind
    · obtain ⟨c, hc, e, he, hv⟩ := K.all k hk q
      have h1 := hd c hc
      have h2 := dot_cong n d hv
      have e1 : dot n d (vf F k) = _ := dot_vf n d F F k (lprod F) hk J.lt
      rw [e1] at h2
      have e3 : (lsum F fun s => - (s.2 k * lrest F s.1) * d s.1) = - lsum F fun s => lrest F s.1 * d s.1 * s.2 k := by
        have : ∀ G : List Lead, (lsum G fun s => - (s.2 k * lrest F s.1) * d s.1) = - lsum G fun s => lrest F s.1 * d s.1 * s.2 k := by
          intro G
          induction G with
          | nil => rfl
          | cons s G ih => rw [lsum_cons, lsum_cons, ih]; grind
        exact this F
      rw [e3] at h2
      exact dv2 e (-1) h1 h2 (by grind)
  · rw [if_neg hk]
    have h3 : p ∣ lsum F fun s => lrest F s.1 * d s.1 * s.2 k := Lin.kill f (Lin.coord k) (fun u ⟨i, e⟩ => by
      rw [e]
      show p ∣ if k < n then r k i else 0
      rw [if_neg hk]
      exact Int.dvd_zero p) s1
    exact dv1 (-1) h3 (by grind)
open Classical in
theorem turned_of (f : Fld p) (J : Jord p n r m F) (hr : ∀ k i, m ≤ i → r k i = 0) (K : Cols p n F cs) (h' : ∀ k, k < n → ∀ j, r' k j = (cs.getD j fun _ => 0) k) {g : Nat} (hg : g < n) : Turned (fun k => k < n ∧ k ≠ g) g (cl p r) (cl p r') := by
  have colr : ∀ (d : Vec) (c : Vec) (j : Nat), cs[j]? = some c → comb n r' d j = dot n d c := fun d c j hj => sumN_congr n fun k hk => by
    rw [h' k hk, List.getD_eq_getElem?_getD, hj]
    rfl
  intro S T hall hdj
  have hS : ∀ k, S k → k < n ∧ k ≠ g := fun k hk => (hall k).mpr (.inl hk)
  have hT : ∀ k, T k → k < n ∧ k ≠ g := fun k hk => (hall k).mpr (.inr hk)
  constructor
  · intro cs1 ct
    obtain ⟨b0, b, nb, sb, rb⟩ := made_rel f (fun k hk => (hS k hk).1) cs1
    obtain ⟨c0, c, nc, sc, rc⟩ := made_rel f (fun k hk => (hT k hk).1) ct
    -- d: the relation of the other table
    have one : ∀ (r : Nat → Vec) (b : Vec) (b0 : Int) (j : Nat), comb n r (fun k => b k - if k = g then b0 else 0) j = comb n r b j - b0 * r g j := fun r b b0 j => by
      have e := comb_lin n r 1 (- b0) b (fun k => if k = g then 1 else 0) j
      rw [comb_one hg] at e
      have e2 : comb n r (fun k => b k - if k = g then b0 else 0) j = comb n r (fun k => 1 * b k + - b0 * if k = g then 1 else 0) j := sumN_congr n fun k _ => by
        show (b k - if k = g then b0 else 0) * r k j = (1 * b k + - b0 * if k = g then 1 else 0) * r k j
        by_cases q : k = g
        · rw [if_pos q, if_pos q]; grind
        · rw [if_neg q, if_neg q]; grind
      rw [e2, e]
      grind
    have hd : ∀ u, u ∈ cs → p ∣ dot n (fun k => c k - if k = g then c0 else 0) u := fun u hu => by
      obtain ⟨j, hj⟩ := List.getElem?_of_mem hu
      rw [← colr _ u j hj, one]
      exact dv1 (-1) (rc j) (by grind)
    have s2 := orth_two f J K hd
    have k2 : p ∣ dot n (fun k => if k < n then c k - (if k = g then c0 else 0) else 0) (fun k => b k - if k = g then b0 else 0) := (dot_lin _ n).kill f (fun u ⟨i, e⟩ => by
      rw [e]
      have e2 : dot n (colv n r i) (fun k => b k - if k = g then b0 else 0) = comb n r (fun k => b k - if k = g then b0 else 0) i := sumN_congr n fun k hk => by
        show (if k < n then r k i else 0) * _ = _
        rw [if_pos hk, Int.mul_comm]
      rw [e2, one]
      exact dv1 (-1) (rb i) (by grind)) s2
    have e3 : dot n (fun k => if k < n then c k - (if k = g then c0 else 0) else 0) (fun k => b k - if k = g then b0 else 0) = c0 * b0 := by
      have hcg : c g = 0 := Classical.byContradiction fun q => (hT g (sc g q)).2 rfl
      have hbg : b g = 0 := Classical.byContradiction fun q => (hS g (sb g q)).2 rfl
      show sumN n _ = _
      rw [sumN_one n _ hg, sumN_zero n fun k hk => ?_]
      · show 0 + (if g < n then c g - (if g = g then c0 else 0) else 0) * (b g - if g = g then b0 else 0) = c0 * b0
        rw [if_pos hg, if_pos rfl, if_pos rfl, hcg, hbg]; grind
      · show (if k = g then 0 else (if k < n then c k - (if k = g then c0 else 0) else 0) * (b k - if k = g then b0 else 0)) = 0
        by_cases q : k = g
        · rw [if_pos q]
        · rw [if_neg q, if_pos hk, if_neg q, if_neg q]
          by_cases q1 : c k = 0
          · rw [q1]; grind
          · by_cases q2 : b k = 0
            · rw [q2]; grind
            · exact absurd (sc k q1) (hdj k (sb k q2))
    rw [e3] at k2
    exact f.nz nc nb k2
  · intro nt
    refine Classical.byContradiction fun ns => nt ?_
    rcases form_or f (((List.range n).filter fun k => decide (S k)).map r) (r g) with q | ⟨mu, lm, km, gm⟩
    · refine absurd (Spn.mono (fun v hv => ?_) q) ns
      obtain ⟨k, hk, e⟩ := List.mem_map.mp hv
      exact ⟨k, of_decide_eq_true (List.mem_filter.mp hk).2, e.symm⟩
    · refine rel_made (c := fun k => mu (r k)) hg gm (fun j => ?_) fun k hk ne nk => ?_
      · cases e : cs[j]? with
        | none =>
          refine dv0 (sumN_zero n fun k hk => ?_)
          rw [h' k hk, List.getD_eq_getElem?_getD, e]
          exact Int.mul_zero _
        | some c =>
          rw [colr _ c j e]
          have hc := List.mem_of_getElem? e
          have gen : ∀ mu : Vec → Int, Lin mu → p ∣ dot n (fun k => mu (r k)) c := by
            intro mu l
            induction l with
            | coord i => exact orth_one f J hr K hc i
            | comb a b m k _ _ i1 i2 =>
              have e5 : dot n (fun q => a * m (r q) + b * k (r q)) c = a * dot n (fun q => m (r q)) c + b * dot n (fun q => k (r q)) c := by
                show sumN n _ = a * sumN n _ + b * sumN n _
                rw [← sumN_lin]
                exact sumN_congr n fun q _ => by grind
              exact dv2 a b i1 i2 e5
          exact gen mu lm
      · rcases (hall k).mp ⟨hk, ne⟩ with q | q
        · exact absurd (km (r k) (List.mem_map.mpr ⟨k, List.mem_filter.mpr ⟨List.mem_range.mpr hk, decide_eq_true q⟩, rfl⟩)) nk
        · exact q
end
end FL
/-! Elimination on lists as the program does it: lean numbers, bounds. Plain Lean, no program. -/
namespace FL
def gcdL (ns : List Int) : Nat := ns.foldl (fun d x => Nat.gcd d x.natAbs) 0
/-- what leaned does to each number -/
def leanF (ns : List Int) (f x : Int) : Int := if f > 0 then x % f else if gcdL ns > 1 then x / (gcdL ns : Int) else x
def leanL (ns : List Int) (f : Int) : List Int := ns.map (leanF ns f)
theorem gcdL_dvd (ns : List Int) : ∀ d0 : Nat, (ns.foldl (fun d x => Nat.gcd d x.natAbs) d0 ∣ d0) ∧ ∀ x, x ∈ ns → (ns.foldl (fun d x => Nat.gcd d x.natAbs) d0) ∣ x.natAbs := by
  induction ns with
  | nil => intro d0; exact ⟨Nat.dvd_refl _, fun x hx => by simp at hx⟩
  | cons y ns ih =>
    intro d0
    obtain ⟨h1, h2⟩ := ih (Nat.gcd d0 y.natAbs)
    refine ⟨Nat.dvd_trans h1 (Nat.gcd_dvd_left _ _), fun x hx => ?_⟩
    rcases List.mem_cons.mp hx with e | hx
    · rw [e]; exact Nat.dvd_trans h1 (Nat.gcd_dvd_right _ _)
    · exact h2 x hx
theorem gcdL_lt {ns : List Int} {b : Nat} (h : ∀ x, x ∈ ns → x.natAbs < 2 ^ b) (h1 : gcdL ns > 1) : gcdL ns < 2 ^ b := by
  by_cases q : ∃ x, x ∈ ns ∧ x ≠ 0
  · obtain ⟨x, hx, nx⟩ := q
    exact Nat.lt_of_le_of_lt (Nat.le_of_dvd (by omega) ((gcdL_dvd ns 0).2 x hx)) (h x hx)
  · have z : ∀ (ms : List Int), (∀ x, x ∈ ms → x = 0) → ms.foldl (fun d x => Nat.gcd d x.natAbs) 0 = 0 := by
      intro ms
      induction ms with
      | nil => intro _; rfl
      | cons y ms ih =>
        intro hm
        rw [List.foldl_cons, hm y List.mem_cons_self]
        exact ih fun x hx => hm x (List.mem_cons_of_mem _ hx)
    have : gcdL ns = 0 := z ns fun x hx => Classical.byContradiction fun n => q ⟨x, hx, n⟩
    omega
theorem leanF_zero (ns : List Int) (f : Int) : leanF ns f 0 = 0 := by
  unfold leanF
  split
  · exact Int.zero_emod f
  · split
    · exact Int.zero_ediv _
    · rfl
theorem leanF_ok {ns : List Int} {f : Int} (h0 : f ∈ fields) : ∃ e : Int, ¬ f ∣ e ∧ ∀ x, x ∈ ns → f ∣ e * leanF ns f x - x := by
  have F := fld_mem h0
  obtain ⟨f0, f13⟩ := fld_nn h0
  by_cases hf : f > 0
  · refine ⟨1, F.one, fun x _ => ?_⟩
    unfold leanF
    rw [if_pos hf, Int.one_mul]
    exact ⟨-(x / f), by have := Int.mul_ediv_add_emod x f; grind⟩
  · have hz : f = 0 := by omega
    subst hz
    by_cases hg : gcdL ns > 1
    · refine ⟨(gcdL ns : Int), fun c => by have := Int.zero_dvd.mp c; omega, fun x hx => ?_⟩
      unfold leanF
      rw [if_neg hf, if_pos hg]
      have hd : (gcdL ns : Int) ∣ x := Int.ofNat_dvd_left.mpr ((gcdL_dvd ns 0).2 x hx)
      rw [Int.mul_ediv_cancel' hd]
      exact dv0 (by omega)
    · refine ⟨1, F.one, fun x _ => ?_⟩
      unfold leanF
      rw [if_neg hf, if_neg hg]
      exact dv0 (by omega)
theorem leanF_lt {ns : List Int} {f : Int} (h0 : f ∈ fields) {b : Nat} (hb : 4 ≤ b) {x : Int} (hx : x ∈ ns) (h : x.natAbs < 2 ^ b) : (leanF ns f x).natAbs < 2 ^ b := by
  obtain ⟨f0, f13⟩ := fld_nn h0
  unfold leanF
  split
  · have h1 := Int.emod_nonneg x (show f ≠ 0 by omega)
    have h2 := Int.emod_lt_of_pos x (show 0 < f by omega)
    have h3 : 2 ^ 4 ≤ 2 ^ b := Nat.pow_le_pow_right (by decide) hb
    omega
  · split
    · refine Nat.lt_of_le_of_lt ?_ h
      have hd : (gcdL ns : Int) ∣ x := Int.ofNat_dvd_left.mpr ((gcdL_dvd ns 0).2 x hx)
      rw [Int.natAbs_ediv_of_dvd hd]
      exact Nat.div_le_self _ _
    · exact h
theorem leanF_red {ns : List Int} {f : Int} (hf : f > 0) (x : Int) : 0 ≤ leanF ns f x ∧ leanF ns f x < f := by
  unfold leanF
  rw [if_pos hf]
  exact ⟨Int.emod_nonneg x (by omega), Int.emod_lt_of_pos x hf⟩
theorem red_nd {p y : Int} (hp : p ∈ fields) (h : p > 0 → 0 ≤ y ∧ y < p) (hy : y ≠ 0) : ¬ p ∣ y := fun c => by
  obtain ⟨p0, _⟩ := fld_nn hp
  by_cases hq : p > 0
  · obtain ⟨a, b⟩ := h hq
    have := Int.emod_eq_zero_of_dvd c
    rw [Int.emod_eq_of_lt a b] at this
    exact hy this
  · have : p = 0 := by omega
    subst this
    exact hy (Int.zero_dvd.mp c)
/-! ### tables, steps on lists -/
structure Tab where
  p : Int
  w : Nat
  rows : List (List Int)
abbrev vecL (l : List Int) : Vec := fun i => l.getD i 0
def Tab.n (T : Tab) : Nat := T.rows.length
def Tab.vec (T : Tab) : Nat → Vec := fun k => vecL (T.rows.getD k [])
structure TabOk (T : Tab) : Prop where
  fp : T.p ∈ fields
  n6 : T.rows.length ≤ 6
  w12 : T.w ≤ 12
  wid : ∀ r, r ∈ T.rows → r.length = T.w
  red : T.p > 0 → ∀ r, r ∈ T.rows → ∀ x, x ∈ r → 0 ≤ x ∧ x < T.p
  big : ∀ r, r ∈ T.rows → ∀ x, x ∈ r → x.natAbs < 2 ^ 227
structure CStep where
  lead : Nat
  known : List Int
  ks : List Nat
  c : Nat → Int
def CStep.abs (s : CStep) : Step3 := (s.lead, vecL s.known, s.c)
def eB : Nat → Nat
  | 0 => 227
  | j + 1 => 2 * eB j + 1
theorem eB_le : ∀ {i j : Nat}, i ≤ j → eB i ≤ eB j
  | i, 0, h => by rw [show i = 0 by omega]; exact Nat.le_refl _
  | i, j + 1, h => by
    by_cases e : i = j + 1
    · rw [e]; exact Nat.le_refl _
    · have := eB_le (show i ≤ j by omega)
      show eB i ≤ 2 * eB j + 1
      omega
theorem eB_ge (j : Nat) : 227 ≤ eB j := eB_le (Nat.zero_le j)
/-- numbers, with the entries of a dict: reduced, not too great -/
structure NumOk (p : Int) (b : Nat) (v : List Int) (ks : List Nat) (c : Nat → Int) : Prop where
  bv : ∀ y, y ∈ v → y.natAbs < 2 ^ b
  bc : ∀ k, (c k).natAbs < 2 ^ b
  rv : p > 0 → ∀ y, y ∈ v → 0 ≤ y ∧ y < p
  rc : p > 0 → ∀ k, 0 ≤ c k ∧ c k < p
  nk : ks.Nodup
  kc : ∀ k, k ∉ ks → c k = 0
structure CElim (T : Tab) (lot : List Nat) (S : List CStep) : Prop where
  el : Elim T.p T.n T.vec lot (S.map CStep.abs)
  num : ∀ (j : Nat) (s : CStep), S[j]? = some s → NumOk T.p (eB j) s.known s.ks s.c ∧ s.known.length = T.w ∧ s.lead < T.w ∧ ∀ k, k ∈ s.ks → k < T.n
structure CRed (T : Tab) (lot : List Nat) (x : Nat) (S : List CStep) (v : List Int) (ks : List Nat) (c : Nat → Int) : Prop where
  rd : Red T.p T.n T.vec lot x (S.map CStep.abs) (vecL v) c
  num : NumOk T.p (eB S.length) v ks c
  len : v.length = T.w
  klt : ∀ k, k ∈ ks → k < T.n
theorem NumOk.mono {p : Int} {b b' : Nat} {v : List Int} {ks : List Nat} {c : Nat → Int} (N : NumOk p b v ks c) (h : b ≤ b') : NumOk p b' v ks c :=
  ⟨fun y hy => Nat.lt_of_lt_of_le (N.bv y hy) (Nat.pow_le_pow_right (by decide) h), fun k => Nat.lt_of_lt_of_le (N.bc k) (Nat.pow_le_pow_right (by decide) h), N.rv, N.rc, N.nk, N.kc⟩
theorem fld_one {p : Int} (hp : p ∈ fields) (h : p > 0) : 1 < p := by
  simp only [fields, List.mem_cons, List.not_mem_nil, or_false] at hp
  omega
section
variable {T : Tab} {lot : List Nat} {x : Nat} {S U : List CStep} {s : CStep} {v : List Int} {ks : List Nat} {c : Nat → Int}
theorem celim_start : CElim T [] [] := ⟨elim_start, fun j s h => by simp at h⟩
theorem row_mem {k : Nat} {r : List Int} (h : T.rows[k]? = some r) : r ∈ T.rows := List.mem_of_getElem? h
theorem cred_start (O : TabOk T) {r : List Int} (hr : T.rows[x]? = some r) : CRed T lot x [] r [x] fun k => if k = x then 1 else 0 := by
  have hx : x < T.n := (List.getElem?_eq_some_iff.mp hr).1
  have er : T.vec x = vecL r := by
    show vecL (T.rows.getD x []) = _
    rw [List.getD_eq_getElem?_getD, hr]
    rfl
  refine ⟨?_, ⟨O.big r (row_mem hr), fun k => ?_, fun hp => O.red hp r (row_mem hr), fun hp k => ?_, by simp, fun k hk => if_neg (by simpa using hk)⟩, O.wid r (row_mem hr), fun k hk => by rw [List.mem_singleton] at hk; rw [hk]; exact hx⟩
  · rw [← er]
    exact red_start (fld_mem O.fp) hx
  · have h1 : (1 : Nat) < 2 ^ eB 0 := Nat.one_lt_two_pow (by decide)
    show (if k = x then (1 : Int) else 0).natAbs < 2 ^ eB 0
    by_cases e : k = x
    · rw [if_pos e]; exact h1
    · rw [if_neg e]; exact Nat.lt_trans (by decide) h1
  · have := fld_one O.fp hp
    by_cases e : k = x
    · rw [if_pos e]; omega
    · rw [if_neg e]; omega
theorem vec_nd (hp : T.p ∈ fields) {b : Nat} (N : NumOk T.p b v ks c) {i : Nat} {y : Int} (hi : v[i]? = some y) (hy : y ≠ 0) : ¬ T.p ∣ vecL v i := by
  have e : vecL v i = y := by
    show v.getD i 0 = y
    rw [List.getD_eq_getElem?_getD, hi]; rfl
  rw [e]
  exact red_nd hp (fun h => N.rv h y (List.mem_of_getElem? hi)) hy
theorem vec_z {i : Nat} {y : Int} (hi : v[i]? = some y) : vecL v i = y := by
  show v.getD i 0 = y
  rw [List.getD_eq_getElem?_getD, hi]; rfl
theorem cred_skip (R : CRed T lot x S v ks c) (h : v[s.lead]? = some 0) : CRed T lot x (S ++ [s]) v ks c := by
  refine ⟨?_, R.num.mono (eB_le (by rw [List.length_append]; omega)), R.len, R.klt⟩
  rw [List.map_append]
  refine R.rd.skip (s := s.abs) ?_
  show T.p ∣ vecL v s.lead
  rw [vec_z h]
  exact Int.dvd_zero _
/-- the numbers behind a step -/
def stepV (up down : Int) (v known : List Int) : List Int := List.zipWith (fun x y => up * x - down * y) v known
def stepC (up down : Int) (c m : Nat → Int) (k : Nat) : Int := up * c k - down * m k
theorem vec_zip {up down : Int} {v known : List Int} (h : v.length = known.length) (g : Int → Int) (g0 : g 0 = 0) (i : Nat) : vecL ((stepV up down v known).map g) i = g (up * vecL v i - down * vecL known i) := by
  show ((List.zipWith (fun x y => up * x - down * y) v known).map g).getD i 0 = g (up * v.getD i 0 - down * known.getD i 0)
  rw [List.getD_eq_getElem?_getD, List.getElem?_map, List.getElem?_zipWith, List.getD_eq_getElem?_getD, List.getD_eq_getElem?_getD]
  by_cases hi : i < v.length
  · rw [List.getElem?_eq_getElem hi, List.getElem?_eq_getElem (by omega)]
    rfl
  · rw [List.getElem?_eq_none (by omega), List.getElem?_eq_none (by omega)]
    show (0 : Int) = g (up * 0 - down * 0)
    rw [Int.mul_zero, Int.mul_zero, Int.sub_zero, g0]
theorem comb_lt {i j : Int} {a b : Nat} (x y : Int) (hi : i.natAbs < 2 ^ a) (hx : x.natAbs < 2 ^ b) (hj : j.natAbs < 2 ^ b) (hy : y.natAbs < 2 ^ a) : (i * x - j * y).natAbs < 2 ^ (a + b + 1) := by
  have h1 : (i * x).natAbs < 2 ^ (a + b) := by
    rw [Int.natAbs_mul, Nat.pow_add]
    exact Nat.mul_lt_mul'' hi hx
  have h2 : (j * y).natAbs < 2 ^ (a + b) := by
    rw [Int.natAbs_mul, Nat.add_comm a b, Nat.pow_add]
    exact Nat.mul_lt_mul'' hj hy
  have e : 2 ^ (a + b + 1) = 2 * 2 ^ (a + b) := by rw [Nat.pow_succ]; omega
  have := Int.natAbs_sub_le (i * x) (j * y)
  omega
theorem mem_zip {up down : Int} {v known : List Int} {z : Int} (h : z ∈ stepV up down v known) : ∃ x y, x ∈ v ∧ y ∈ known ∧ z = up * x - down * y := by
  obtain ⟨i, hi⟩ := List.getElem?_of_mem h
  unfold stepV at hi
  rw [List.getElem?_zipWith] at hi
  cases e1 : v[i]? with
  | none => rw [e1] at hi; simp at hi
  | some x =>
    cases e2 : known[i]? with
    | none => rw [e1, e2] at hi; simp at hi
    | some y =>
      rw [e1, e2] at hi
      exact ⟨x, y, List.mem_of_getElem? e1, List.mem_of_getElem? e2, (Option.some.inj hi).symm⟩
theorem cred_step (O : TabOk T) (E : CElim T lot (S ++ s :: U)) (R : CRed T lot x S v ks c) (xl : x ∉ lot) {up down : Int} (hup : s.known[s.lead]? = some up) (hdn : v[s.lead]? = some down)
    {keys : List Nat} (nk : keys.Nodup) (mk : ∀ k, k ∈ keys ↔ k ∈ ks ∨ k ∈ s.ks) {whole : List Int} (hw : whole = stepV up down v s.known ++ keys.map (stepC up down c s.c)) :
    CRed T lot x (S ++ [s]) ((stepV up down v s.known).map (leanF whole T.p)) keys (fun k => leanF whole T.p (stepC up down c s.c k)) := by
  have F := fld_mem O.fp
  obtain ⟨Ns, ls, lds, kls⟩ := E.num S.length s (by simp)
  have N := R.num
  have hlen : v.length = s.known.length := by rw [R.len, ls]
  have bup : up.natAbs < 2 ^ eB S.length := Ns.bv _ (List.mem_of_getElem? hup)
  have bdn : down.natAbs < 2 ^ eB S.length := N.bv _ (List.mem_of_getElem? hdn)
  have c0 : ∀ k, k ∉ keys → stepC up down c s.c k = 0 := fun k hk => by
    have h1 : k ∉ ks := fun q => hk ((mk k).mpr (.inl q))
    have h2 : k ∉ s.ks := fun q => hk ((mk k).mpr (.inr q))
    show up * c k - down * s.c k = 0
    rw [N.kc k h1, Ns.kc k h2]; omega
  obtain ⟨e, he, hl⟩ := leanF_ok (ns := whole) O.fp
  have mV : ∀ z, z ∈ stepV up down v s.known → z ∈ whole := fun z hz => by rw [hw]; exact List.mem_append_left _ hz
  have mC : ∀ k, k ∈ keys → stepC up down c s.c k ∈ whole := fun k hk => by rw [hw]; exact List.mem_append_right _ (List.mem_map.mpr ⟨k, hk, rfl⟩)
  have hb : eB (S ++ [s]).length = eB S.length + eB S.length + 1 := by
    rw [List.length_append]
    show 2 * eB S.length + 1 = _
    omega
  have b4 : 4 ≤ eB (S ++ [s]).length := Nat.le_trans (by decide) (eB_ge _)
  have bV : ∀ z, z ∈ stepV up down v s.known → z.natAbs < 2 ^ eB (S ++ [s]).length := fun z hz => by
    obtain ⟨a, b, ha, hb', ez⟩ := mem_zip hz
    rw [ez, hb]
    exact comb_lt a b bup (N.bv a ha) bdn (Ns.bv b hb')
  have bC : ∀ k, (stepC up down c s.c k).natAbs < 2 ^ eB (S ++ [s]).length := fun k => by
    rw [hb]
    exact comb_lt _ _ bup (N.bc k) bdn (Ns.bc k)
  refine ⟨?_, ⟨fun y hy => ?_, fun k => ?_, fun hp y hy => ?_, fun hp k => ?_, nk, fun k hk => ?_⟩, ?_, fun k hk => ?_⟩
  · rw [List.map_append]
    have E' := E.el
    rw [List.map_append, List.map_cons] at E'
    have eu : vecL s.known s.lead = up := vec_z hup
    have ed : vecL v s.lead = down := vec_z hdn
    refine R.rd.step F E' xl (e := e) he (fun i => ?_) (fun k => ?_) fun k h1 h2 => ?_
    · show T.p ∣ e * vecL ((stepV up down v s.known).map (leanF whole T.p)) i - (vecL s.known s.lead * vecL v i - vecL v s.lead * vecL s.known i)
      rw [vec_zip hlen _ (leanF_zero _ _), eu, ed]
      by_cases hi : i < v.length
      · refine hl _ (mV _ ?_)
        unfold stepV
        refine List.mem_of_getElem? (i := i) ?_
        rw [List.getElem?_zipWith, List.getElem?_eq_getElem hi, List.getElem?_eq_getElem (by omega)]
        show some (up * v[i] - down * s.known[i]) = some (up * v.getD i 0 - down * s.known.getD i 0)
        rw [List.getD_eq_getElem?_getD, List.getElem?_eq_getElem hi, List.getD_eq_getElem?_getD, List.getElem?_eq_getElem (by omega)]
        rfl
      · have z1 : vecL v i = 0 := by show v.getD i 0 = 0; rw [List.getD_eq_getElem?_getD, List.getElem?_eq_none (by omega)]; rfl
        have z2 : vecL s.known i = 0 := by show s.known.getD i 0 = 0; rw [List.getD_eq_getElem?_getD, List.getElem?_eq_none (by omega)]; rfl
        rw [z1, z2, Int.mul_zero, Int.mul_zero, Int.sub_zero, leanF_zero, Int.mul_zero]
        exact Int.dvd_zero _
    · show T.p ∣ e * leanF whole T.p (stepC up down c s.c k) - (vecL s.known s.lead * c k - vecL v s.lead * s.c k)
      rw [eu, ed]
      by_cases hk : k ∈ keys
      · exact hl _ (mC k hk)
      · have z := c0 k hk
        rw [z, leanF_zero, Int.mul_zero]
        have z' : up * c k - down * s.c k = 0 := z
        rw [z']
        exact Int.dvd_zero _
    · have h2 : s.c k = 0 := h2
      show leanF whole T.p (up * c k - down * s.c k) = 0
      rw [h1, h2, Int.mul_zero, Int.mul_zero, Int.sub_zero, leanF_zero]
  · obtain ⟨z, hz, ez⟩ := List.mem_map.mp hy
    rw [← ez]
    exact leanF_lt O.fp b4 (mV z hz) (bV z hz)
  · by_cases hk : k ∈ keys
    · exact leanF_lt O.fp b4 (mC k hk) (bC k)
    · show (leanF whole T.p (stepC up down c s.c k)).natAbs < _
      rw [c0 k hk, leanF_zero]
      exact Nat.two_pow_pos _
  · obtain ⟨z, hz, ez⟩ := List.mem_map.mp hy
    rw [← ez]
    exact leanF_red hp z
  · exact leanF_red hp _
  · show leanF whole T.p (stepC up down c s.c k) = 0
    rw [c0 k hk, leanF_zero]
  · rw [List.length_map]
    unfold stepV
    rw [List.length_zipWith, R.len, ls, Nat.min_self]
  · rcases (mk k).mp hk with q | q
    · exact R.klt k q
    · exact kls k q
/-- something is left: it is added -/
theorem celim_add (E : CElim T lot S) (R : CRed T lot x S v ks c) (hp : T.p ∈ fields) {l : Nat} {y : Int} (hl : v[l]? = some y) (hy : y ≠ 0) : CElim T (lot ++ [x]) (S ++ [⟨l, v, ks, c⟩]) := by
  refine ⟨?_, fun j s hs => ?_⟩
  · rw [List.map_append]
    exact E.el.add R.rd (vec_nd hp R.num hl hy)
  · by_cases hj : j < S.length
    · rw [List.getElem?_append_left hj] at hs
      exact E.num j s hs
    · rw [List.getElem?_append_right (by omega)] at hs
      have hj' : j = S.length := by
        have := (List.getElem?_eq_some_iff.mp hs).1
        simp at this
        omega
      subst hj'
      rw [Nat.sub_self] at hs
      cases hs
      exact ⟨R.num, R.len, by rw [← R.len]; exact (List.getElem?_eq_some_iff.mp hl).1, R.klt⟩
theorem allz (h : ∀ y, y ∈ v → y = 0) (i : Nat) : vecL v i = 0 := by
  show v.getD i 0 = 0
  rw [List.getD_eq_getElem?_getD]
  cases e : v[i]? with
  | none => rfl
  | some y => exact h y (List.mem_of_getElem? e)
theorem celim_same (E : CElim T lot S) (R : CRed T lot x S v ks c) (h : ∀ y, y ∈ v → y = 0) : CElim T (lot ++ [x]) S :=
  ⟨E.el.same R.rd fun i => by rw [allz h]; exact Int.dvd_zero _, E.num⟩
theorem crel (O : TabOk T) (R : CRed T lot x S v ks c) (hx : x < T.n) (h : ∀ y, y ∈ v → y = 0) : RelOk T.p T.n T.vec lot x (ks.filter fun k => c k != 0) := by
  have F := fld_mem O.fp
  have m : ∀ k, k ∈ ks.filter (fun k => c k != 0) ↔ c k ≠ 0 := fun k => by
    rw [List.mem_filter]
    constructor
    · intro q; simpa using q.2
    · intro q; exact ⟨Classical.byContradiction fun n => q (R.num.kc k n), by simpa using q⟩
  refine ⟨R.num.nk.filter _, (m x).mpr fun e => R.rd.nz (by rw [e]; exact Int.dvd_zero _), fun k hk => R.rd.sup k ((m k).mp hk), c, fun k hk => red_nd O.fp (fun hp => R.num.rc hp k) ((m k).mp hk), fun k hk => Classical.byContradiction fun q => hk ((m k).mpr q), ?_⟩
  exact R.rd.made hx fun i => by rw [allz h]; exact Int.dvd_zero _
theorem cunmade (O : TabOk T) (E : CElim T lot S) (R : CRed T lot x S v ks c) (lt : ∀ k, k ∈ lot → k < T.n) (hx : x < T.n) (h : ¬ ∀ y, y ∈ v → y = 0) : ¬ cl T.p T.vec (fun k => k ∈ lot) x := by
  obtain ⟨y, hy⟩ := Classical.not_forall.mp h
  obtain ⟨hm, hn⟩ := Classical.not_imp.mp hy
  obtain ⟨i, hi⟩ := List.getElem?_of_mem hm
  exact R.rd.unmade (fld_mem O.fp) E.el lt hx (vec_nd O.fp R.num hi hn)
end
end FL
set_option Elab.async false
set_option linter.all false
set_option maxRecDepth 100000
set_option maxHeartbeats 4000000
/-! The text by places; what the top has written (printed by gen.py). -/
namespace FL
open PySem PySem.Spec PyProof.Rows L2
def top (i : Nat) : Stmt := PySem.Challenge.pw_freelots_k73_whole_games_turned_about.main.body.getD i (.Pass ⟨0, 0, 0, 0⟩)
abbrev s_is_list : Stmt := top 12
theorem sc_is_list : FnScope ["value"] ["value"] (defScope s_is_list) := ⟨rfl, rfl, rfl, by decide +kernel, rfl, by decide +kernel, by decide +kernel⟩
abbrev s_is_integer : Stmt := top 13
theorem sc_is_integer : FnScope ["value"] ["value"] (defScope s_is_integer) := ⟨rfl, rfl, rfl, by decide +kernel, rfl, by decide +kernel, by decide +kernel⟩
abbrev s_is_below : Stmt := top 14
theorem sc_is_below : FnScope ["value", "bound"] ["value", "bound"] (defScope s_is_below) := ⟨rfl, rfl, rfl, by decide +kernel, rfl, by decide +kernel, by decide +kernel⟩
abbrev s_greatest_divisor : Stmt := top 15
theorem sc_greatest_divisor : FnScope ["one", "other"] ["one", "other"] (defScope s_greatest_divisor) := ⟨rfl, rfl, rfl, by decide +kernel, rfl, by decide +kernel, by decide +kernel⟩
abbrev s_leaned : Stmt := top 16
theorem sc_leaned : FnScope ["numbers", "field", "divisor", "number"] ["numbers", "field"] (defScope s_leaned) := ⟨rfl, rfl, rfl, by decide +kernel, rfl, by decide +kernel, by decide +kernel⟩
abbrev s_Places_init : Stmt := inClass (top 18) 0
theorem sc_Places_init : FnScope ["self", "tables", "sizes", "lots", "lot"] ["self", "tables", "sizes", "lots"] (defScope s_Places_init) := ⟨rfl, rfl, rfl, by decide +kernel, rfl, by decide +kernel, by decide +kernel⟩
abbrev s_Places_steps_to : Stmt := inClass (top 18) 1
theorem sc_Places_steps_to : FnScope ["self", "number", "bases", "thing", "lot", "relation", "other"] ["self", "number", "bases", "thing"] (defScope s_Places_steps_to) := ⟨rfl, rfl, rfl, by decide +kernel, rfl, by decide +kernel, by decide +kernel⟩
abbrev s_Places_reached_from : Stmt := inClass (top 18) 2
theorem sc_Places_reached_from : FnScope ["self", "starts", "bases", "reached", "level", "later", "thing", "number", "steps", "fresh", "table", "lot", "other"] ["self", "starts"] (defScope s_Places_reached_from) := ⟨rfl, rfl, rfl, by decide +kernel, rfl, by decide +kernel, by decide +kernel⟩
abbrev s_Places_put : Stmt := inClass (top 18) 3
theorem sc_Places_put : FnScope ["self", "thing", "reached", "last", "moves", "mover", "number", "lot"] ["self", "thing"] (defScope s_Places_put) := ⟨rfl, rfl, rfl, by decide +kernel, rfl, by decide +kernel, by decide +kernel⟩
abbrev s_Places_told : Stmt := inClass (top 18) 4
theorem sc_Places_told : FnScope ["self", "lot"] ["self"] (defScope s_Places_told) := ⟨rfl, rfl, rfl, by decide +kernel, rfl, by decide +kernel, by decide +kernel⟩
abbrev s_Copies_init : Stmt := inClass (top 20) 0
theorem sc_Copies_init : FnScope ["self", "table", "rows", "ahead"] ["self", "table", "rows", "ahead"] (defScope s_Copies_init) := ⟨rfl, rfl, rfl, by decide +kernel, rfl, by decide +kernel, by decide +kernel⟩
abbrev s_Copies_base_of : Stmt := inClass (top 20) 1
theorem sc_Copies_base_of : FnScope ["self", "lot"] ["self", "lot"] (defScope s_Copies_base_of) := ⟨rfl, rfl, rfl, by decide +kernel, rfl, by decide +kernel, by decide +kernel⟩
abbrev s_CopiesBase_init : Stmt := inClass (top 21) 0
theorem sc_CopiesBase_init : FnScope ["self", "copies", "lot", "thing"] ["self", "copies", "lot"] (defScope s_CopiesBase_init) := ⟨rfl, rfl, rfl, by decide +kernel, rfl, by decide +kernel, by decide +kernel⟩
abbrev s_CopiesBase_relation : Stmt := inClass (top 21) 1
theorem sc_CopiesBase_relation : FnScope ["self", "thing", "row", "relation", "other"] ["self", "thing"] (defScope s_CopiesBase_relation) := ⟨rfl, rfl, rfl, by decide +kernel, rfl, by decide +kernel, by decide +kernel⟩
abbrev s_is_made : Stmt := top 25
theorem sc_is_made : FnScope ["table", "lot", "goal"] ["table", "lot", "goal"] (defScope s_is_made) := ⟨rfl, rfl, rfl, by decide +kernel, rfl, by decide +kernel, by decide +kernel⟩
abbrev s_two_lots : Stmt := top 26
theorem sc_two_lots : FnScope ["table", "kept", "free", "copies", "places", "thing"] ["table", "kept", "free"] (defScope s_two_lots) := ⟨rfl, rfl, rfl, by decide +kernel, rfl, by decide +kernel, by decide +kernel⟩
abbrev s_stuck : Stmt := top 27
theorem sc_stuck : FnScope ["table", "kept", "free", "places", "found", "thing", "copies", "doubled"] ["table", "kept", "free"] (defScope s_stuck) := ⟨rfl, rfl, rfl, by decide +kernel, rfl, by decide +kernel, by decide +kernel⟩
abbrev s_hold_of : Stmt := top 28
theorem sc_hold_of : FnScope ["table", "goal", "kept", "free", "places", "rows", "one", "two", "lot", "thing"] ["table", "goal", "kept", "free"] (defScope s_hold_of) := ⟨rfl, rfl, rfl, by decide +kernel, rfl, by decide +kernel, by decide +kernel⟩
abbrev s_Moment_init : Stmt := inClass (top 29) 0
theorem sc_Moment_init : FnScope ["self", "kept", "cut", "free", "hand"] ["self", "kept", "cut", "free", "hand"] (defScope s_Moment_init) := ⟨rfl, rfl, rfl, by decide +kernel, rfl, by decide +kernel, by decide +kernel⟩
abbrev s_Moment_behind : Stmt := inClass (top 29) 1
theorem sc_Moment_behind : FnScope ["self", "row", "free", "other"] ["self", "row"] (defScope s_Moment_behind) := ⟨rfl, rfl, rfl, by decide +kernel, rfl, by decide +kernel, by decide +kernel⟩
abbrev s_Game_init : Stmt := inClass (top 30) 0
theorem sc_Game_init : FnScope ["self", "table", "goal", "first", "row"] ["self", "table", "goal", "first"] (defScope s_Game_init) := ⟨rfl, rfl, rfl, by decide +kernel, rfl, by decide +kernel, by decide +kernel⟩
abbrev s_Game_now : Stmt := inClass (top 30) 3
theorem sc_Game_now : FnScope ["self"] ["self"] (defScope s_Game_now) := ⟨rfl, rfl, rfl, by decide +kernel, rfl, by decide +kernel, by decide +kernel⟩
abbrev s_Game_free_rows : Stmt := inClass (top 30) 6
theorem sc_Game_free_rows : FnScope ["self"] ["self"] (defScope s_Game_free_rows) := ⟨rfl, rfl, rfl, by decide +kernel, rfl, by decide +kernel, by decide +kernel⟩
abbrev s_Game_is_kept : Stmt := inClass (top 30) 7
theorem sc_Game_is_kept : FnScope ["self", "moment"] ["self", "moment"] (defScope s_Game_is_kept) := ⟨rfl, rfl, rfl, by decide +kernel, rfl, by decide +kernel, by decide +kernel⟩
abbrev s_Game_is_lost : Stmt := inClass (top 30) 8
theorem sc_Game_is_lost : FnScope ["self", "moment"] ["self", "moment"] (defScope s_Game_is_lost) := ⟨rfl, rfl, rfl, by decide +kernel, rfl, by decide +kernel, by decide +kernel⟩
abbrev s_Game_turn : Stmt := inClass (top 30) 9
theorem sc_Game_turn : FnScope ["self", "moment"] ["self"] (defScope s_Game_turn) := ⟨rfl, rfl, rfl, by decide +kernel, rfl, by decide +kernel, by decide +kernel⟩
abbrev s_Game_winner_at : Stmt := inClass (top 30) 10
theorem sc_Game_winner_at : FnScope ["self", "moment", "row"] ["self", "moment"] (defScope s_Game_winner_at) := ⟨rfl, rfl, rfl, by decide +kernel, rfl, by decide +kernel, by decide +kernel⟩
abbrev s_Game_winner : Stmt := inClass (top 30) 11
theorem sc_Game_winner : FnScope ["self"] ["self"] (defScope s_Game_winner) := ⟨rfl, rfl, rfl, by decide +kernel, rfl, by decide +kernel, by decide +kernel⟩
abbrev s_Game_winning : Stmt := inClass (top 30) 12
theorem sc_Game_winning : FnScope ["self", "moment", "row"] ["self"] (defScope s_Game_winning) := ⟨rfl, rfl, rfl, by decide +kernel, rfl, by decide +kernel, by decide +kernel⟩
abbrev s_Game_take : Stmt := inClass (top 30) 13
theorem sc_Game_take : FnScope ["self", "row", "moment"] ["self", "row"] (defScope s_Game_take) := ⟨rfl, rfl, rfl, by decide +kernel, rfl, by decide +kernel, by decide +kernel⟩
abbrev s_is_row : Stmt := top 32
theorem sc_is_row : FnScope ["value", "width", "number"] ["value", "width"] (defScope s_is_row) := ⟨rfl, rfl, rfl, by decide +kernel, rfl, by decide +kernel, by decide +kernel⟩
abbrev s_width_of : Stmt := top 33
theorem sc_width_of : FnScope ["rows"] ["rows"] (defScope s_width_of) := ⟨rfl, rfl, rfl, by decide +kernel, rfl, by decide +kernel, by decide +kernel⟩
abbrev s_Base_init : Stmt := inClass (top 34) 0
theorem sc_Base_init : FnScope ["self", "table"] ["self", "table"] (defScope s_Base_init) := ⟨rfl, rfl, rfl, by decide +kernel, rfl, by decide +kernel, by decide +kernel⟩
abbrev s_Base_left_of : Stmt := inClass (top 34) 1
theorem sc_Base_left_of : FnScope ["self", "row", "field", "numbers", "parts", "lead", "known", "makers", "up", "down", "keys", "counts", "whole", "x", "y", "key"] ["self", "row"] (defScope s_Base_left_of) := ⟨rfl, rfl, rfl, by decide +kernel, rfl, by decide +kernel, by decide +kernel⟩
abbrev s_Base_relation : Stmt := inClass (top 34) 2
theorem sc_Base_relation : FnScope ["self", "row", "numbers", "parts", "number", "key", "count"] ["self", "row"] (defScope s_Base_relation) := ⟨rfl, rfl, rfl, by decide +kernel, rfl, by decide +kernel, by decide +kernel⟩
abbrev s_Base_add : Stmt := inClass (top 34) 3
theorem sc_Base_add : FnScope ["self", "row", "numbers", "parts", "leads", "lead", "number"] ["self", "row"] (defScope s_Base_add) := ⟨rfl, rfl, rfl, by decide +kernel, rfl, by decide +kernel, by decide +kernel⟩
abbrev s_Rows_init : Stmt := inClass (top 35) 0
theorem sc_Rows_init : FnScope ["self", "rows", "field", "width", "index", "row", "x"] ["self", "rows", "field"] (defScope s_Rows_init) := ⟨rfl, rfl, rfl, by decide +kernel, rfl, by decide +kernel, by decide +kernel⟩
abbrev s_Rows_field : Stmt := inClass (top 35) 1
theorem sc_Rows_field : FnScope ["self"] ["self"] (defScope s_Rows_field) := ⟨rfl, rfl, rfl, by decide +kernel, rfl, by decide +kernel, by decide +kernel⟩
abbrev s_Rows_len : Stmt := inClass (top 35) 3
theorem sc_Rows_len : FnScope ["self"] ["self"] (defScope s_Rows_len) := ⟨rfl, rfl, rfl, by decide +kernel, rfl, by decide +kernel, by decide +kernel⟩
abbrev s_Rows_row_at : Stmt := inClass (top 35) 5
theorem sc_Rows_row_at : FnScope ["self", "row"] ["self", "row"] (defScope s_Rows_row_at) := ⟨rfl, rfl, rfl, by decide +kernel, rfl, by decide +kernel, by decide +kernel⟩
abbrev s_Rows_base_of : Stmt := inClass (top 35) 6
theorem sc_Rows_base_of : FnScope ["self", "lot", "base", "row"] ["self", "lot"] (defScope s_Rows_base_of) := ⟨rfl, rfl, rfl, by decide +kernel, rfl, by decide +kernel, by decide +kernel⟩
abbrev s__law_source : Stmt := top 37
theorem sc__law_source : FnScope ["_law_script", "_law_great", "_law_seed", "_law_cell"] ["_law_script"] (defScope s__law_source) := ⟨rfl, rfl, rfl, by decide +kernel, rfl, by decide +kernel, by decide +kernel⟩
abbrev s__law_draw : Stmt := top 38
theorem sc__law_draw : FnScope ["_law_source_here", "_law_many", "_law_digit", "_law_mixed"] ["_law_source_here", "_law_many"] (defScope s__law_draw) := ⟨rfl, rfl, rfl, by decide +kernel, rfl, by decide +kernel, by decide +kernel⟩
abbrev s__law_pick : Stmt := top 39
theorem sc__law_pick : FnScope ["_law_source_here", "_law_things"] ["_law_source_here", "_law_things"] (defScope s__law_pick) := ⟨rfl, rfl, rfl, by decide +kernel, rfl, by decide +kernel, by decide +kernel⟩
abbrev s__law_field : Stmt := top 40
theorem sc__law_field : FnScope ["_law_source_here"] ["_law_source_here"] (defScope s__law_field) := ⟨rfl, rfl, rfl, by decide +kernel, rfl, by decide +kernel, by decide +kernel⟩
abbrev s__law_rows : Stmt := top 41
theorem sc__law_rows : FnScope ["_law_source_here", "_law_width", "_law_many", "_law_found", "_law_k", "_law_way", "_law_row", "_law_times", "_law_place", "_law_number"] ["_law_source_here", "_law_width", "_law_many"] (defScope s__law_rows) := ⟨rfl, rfl, rfl, by decide +kernel, rfl, by decide +kernel, by decide +kernel⟩
abbrev s__law_made : Stmt := top 42
theorem sc__law_made : FnScope ["_law_parts"] ["_law_parts"] (defScope s__law_made) := ⟨rfl, rfl, rfl, by decide +kernel, rfl, by decide +kernel, by decide +kernel⟩
abbrev s__law_divisor : Stmt := top 43
theorem sc__law_divisor : FnScope ["_law_one", "_law_other"] ["_law_one", "_law_other"] (defScope s__law_divisor) := ⟨rfl, rfl, rfl, by decide +kernel, rfl, by decide +kernel, by decide +kernel⟩
abbrev s__law_game : Stmt := top 44
theorem sc__law_game : FnScope ["_law_source_here", "_law_most", "_law_parts"] ["_law_source_here", "_law_most"] (defScope s__law_game) := ⟨rfl, rfl, rfl, by decide +kernel, rfl, by decide +kernel, by decide +kernel⟩
abbrev s__law_columns : Stmt := top 45
theorem sc__law_columns : FnScope ["_law_parts", "_law_field_here", "_law_found", "_law_place", "_law_row", "_law_lead", "_law_known", "_law_leads", "_law_one", "_law_x", "_law_y", "_law_k", "_law_number"] ["_law_parts"] (defScope s__law_columns) := ⟨rfl, rfl, rfl, by decide +kernel, rfl, by decide +kernel, by decide +kernel⟩
abbrev s__law_less : Stmt := top 46
theorem sc__law_less : FnScope ["_law_known", "_law_row", "_law_place", "_law_field_here", "_law_x", "_law_y"] ["_law_known", "_law_row", "_law_place", "_law_field_here"] (defScope s__law_less) := ⟨rfl, rfl, rfl, by decide +kernel, rfl, by decide +kernel, by decide +kernel⟩
abbrev s__law_lean : Stmt := top 47
theorem sc__law_lean : FnScope ["_law_row", "_law_field_here", "_law_part", "_law_number"] ["_law_row", "_law_field_here"] (defScope s__law_lean) := ⟨rfl, rfl, rfl, by decide +kernel, rfl, by decide +kernel, by decide +kernel⟩
abbrev s__law_turned : Stmt := top 48
theorem sc__law_turned : FnScope ["_law_parts", "_law_steps", "_law_many", "_law_leads", "_law_columns_here", "_law_product", "_law_lead", "_law_row", "_law_free", "_law_column", "_law_rest", "_law_other", "_law_known", "_law_k"] ["_law_parts"] (defScope s__law_turned) := ⟨rfl, rfl, rfl, by decide +kernel, rfl, by decide +kernel, by decide +kernel⟩
abbrev s_law : Stmt := top 49
theorem sc_law : FnScope ["_law_script", "_law_source_here", "_law_turn", "_law_parts", "_law_goal", "_law_hands", "_law_one", "_law_other", "_law_about", "_law_row"] ["_law_script"] (defScope s_law) := ⟨rfl, rfl, rfl, by decide +kernel, rfl, by decide +kernel, by decide +kernel⟩
/-- where things stand -/
structure At where
  Places : Addr
  Copies : Addr
  CopiesBase : Addr
  Moment : Addr
  Game : Addr
  Base : Addr
  Rows : Addr
  is_list : Addr
  is_integer : Addr
  is_below : Addr
  greatest_divisor : Addr
  leaned : Addr
  Places_init : Addr
  Places_steps_to : Addr
  Places_reached_from : Addr
  Places_put : Addr
  Places_told : Addr
  Copies_init : Addr
  Copies_base_of : Addr
  CopiesBase_init : Addr
  CopiesBase_relation : Addr
  is_made : Addr
  two_lots : Addr
  stuck : Addr
  hold_of : Addr
  Moment_init : Addr
  Moment_behind : Addr
  Game_init : Addr
  Game_now : Addr
  Game_free_rows : Addr
  Game_is_kept : Addr
  Game_is_lost : Addr
  Game_turn : Addr
  Game_winner_at : Addr
  Game_winner : Addr
  Game_winning : Addr
  Game_take : Addr
  is_row : Addr
  width_of : Addr
  Base_init : Addr
  Base_left_of : Addr
  Base_relation : Addr
  Base_add : Addr
  Rows_init : Addr
  Rows_field : Addr
  Rows_len : Addr
  Rows_row_at : Addr
  Rows_base_of : Addr
  _law_source : Addr
  _law_draw : Addr
  _law_pick : Addr
  _law_field : Addr
  _law_rows : Addr
  _law_made : Addr
  _law_divisor : Addr
  _law_game : Addr
  _law_columns : Addr
  _law_less : Addr
  _law_lean : Addr
  _law_turned : Addr
  law : Addr
  p_field : Addr
  FIELDS : Addr
/-- what the top has written -/
structure Tx (K : PySem.W.Frag) (mg : Str → Option Value) (a : At) : Prop where
  c_Places : Cls K a.Places
  gC_Places : mg "Places" = some (.ref a.Places)
  k_Places : Mk K a.Places a.Places_init
  n_Places_tables : NoAttr K a.Places "tables"
  n_Places_sizes : NoAttr K a.Places "sizes"
  n_Places_kept : NoAttr K a.Places "kept"
  c_Copies : Cls K a.Copies
  gC_Copies : mg "Copies" = some (.ref a.Copies)
  k_Copies : Mk K a.Copies a.Copies_init
  n_Copies_own_table : NoAttr K a.Copies "own_table"
  n_Copies_copied : NoAttr K a.Copies "copied"
  n_Copies_ahead : NoAttr K a.Copies "ahead"
  c_CopiesBase : Cls K a.CopiesBase
  gC_CopiesBase : mg "CopiesBase" = some (.ref a.CopiesBase)
  k_CopiesBase : Mk K a.CopiesBase a.CopiesBase_init
  n_CopiesBase_copied : NoAttr K a.CopiesBase "copied"
  n_CopiesBase_thing_of : NoAttr K a.CopiesBase "thing_of"
  n_CopiesBase_base : NoAttr K a.CopiesBase "base"
  c_Moment : Cls K a.Moment
  gC_Moment : mg "Moment" = some (.ref a.Moment)
  k_Moment : Mk K a.Moment a.Moment_init
  n_Moment_kept : NoAttr K a.Moment "kept"
  n_Moment_cut : NoAttr K a.Moment "cut"
  n_Moment_free : NoAttr K a.Moment "free"
  n_Moment_hand : NoAttr K a.Moment "hand"
  c_Game : Cls K a.Game
  gC_Game : mg "Game" = some (.ref a.Game)
  k_Game : Mk K a.Game a.Game_init
  n_Game_own_table : NoAttr K a.Game "own_table"
  n_Game_own_goal : NoAttr K a.Game "own_goal"
  n_Game_moments : NoAttr K a.Game "moments"
  n_Game_at : NoAttr K a.Game "at"
  c_Base : Cls K a.Base
  gC_Base : mg "Base" = some (.ref a.Base)
  k_Base : Mk K a.Base a.Base_init
  n_Base_own_table : NoAttr K a.Base "own_table"
  n_Base_steps : NoAttr K a.Base "steps"
  c_Rows : Cls K a.Rows
  gC_Rows : mg "Rows" = some (.ref a.Rows)
  k_Rows : Mk K a.Rows a.Rows_init
  n_Rows_own_field : NoAttr K a.Rows "own_field"
  n_Rows_own_width : NoAttr K a.Rows "own_width"
  n_Rows_own_rows : NoAttr K a.Rows "own_rows"
  F_is_list : ∃ fd, FunD K "is_list" "is_list" (defArgs s_is_list) (defBody s_is_list) (defScope s_is_list) [] [] a.is_list fd
  g_is_list : mg "is_list" = some (.ref a.is_list)
  F_is_integer : ∃ fd, FunD K "is_integer" "is_integer" (defArgs s_is_integer) (defBody s_is_integer) (defScope s_is_integer) [] [] a.is_integer fd
  g_is_integer : mg "is_integer" = some (.ref a.is_integer)
  F_is_below : ∃ fd, FunD K "is_below" "is_below" (defArgs s_is_below) (defBody s_is_below) (defScope s_is_below) [] [] a.is_below fd
  g_is_below : mg "is_below" = some (.ref a.is_below)
  F_greatest_divisor : ∃ fd, FunD K "greatest_divisor" "greatest_divisor" (defArgs s_greatest_divisor) (defBody s_greatest_divisor) (defScope s_greatest_divisor) [] [] a.greatest_divisor fd
  g_greatest_divisor : mg "greatest_divisor" = some (.ref a.greatest_divisor)
  F_leaned : ∃ fd, FunD K "leaned" "leaned" (defArgs s_leaned) (defBody s_leaned) (defScope s_leaned) [] [] a.leaned fd
  g_leaned : mg "leaned" = some (.ref a.leaned)
  F_Places_init : ∃ fd, FunD K "__init__" "Places.__init__" (defArgs s_Places_init) (defBody s_Places_init) (defScope s_Places_init) [] [] a.Places_init fd
  F_Places_steps_to : ∃ fd, FunD K "steps_to" "Places.steps_to" (defArgs s_Places_steps_to) (defBody s_Places_steps_to) (defScope s_Places_steps_to) [] [] a.Places_steps_to fd
  M_Places_steps_to : Meth K a.Places "steps_to" a.Places_steps_to
  F_Places_reached_from : ∃ fd, FunD K "reached_from" "Places.reached_from" (defArgs s_Places_reached_from) (defBody s_Places_reached_from) (defScope s_Places_reached_from) [] [] a.Places_reached_from fd
  M_Places_reached_from : Meth K a.Places "reached_from" a.Places_reached_from
  F_Places_put : ∃ fd, FunD K "put" "Places.put" (defArgs s_Places_put) (defBody s_Places_put) (defScope s_Places_put) [] [] a.Places_put fd
  M_Places_put : Meth K a.Places "put" a.Places_put
  F_Places_told : ∃ fd, FunD K "told" "Places.told" (defArgs s_Places_told) (defBody s_Places_told) (defScope s_Places_told) [] [] a.Places_told fd
  M_Places_told : Meth K a.Places "told" a.Places_told
  F_Copies_init : ∃ fd, FunD K "__init__" "Copies.__init__" (defArgs s_Copies_init) (defBody s_Copies_init) (defScope s_Copies_init) [] [] a.Copies_init fd
  F_Copies_base_of : ∃ fd, FunD K "base_of" "Copies.base_of" (defArgs s_Copies_base_of) (defBody s_Copies_base_of) (defScope s_Copies_base_of) [] [] a.Copies_base_of fd
  M_Copies_base_of : Meth K a.Copies "base_of" a.Copies_base_of
  F_CopiesBase_init : ∃ fd, FunD K "__init__" "CopiesBase.__init__" (defArgs s_CopiesBase_init) (defBody s_CopiesBase_init) (defScope s_CopiesBase_init) [] [] a.CopiesBase_init fd
  F_CopiesBase_relation : ∃ fd, FunD K "relation" "CopiesBase.relation" (defArgs s_CopiesBase_relation) (defBody s_CopiesBase_relation) (defScope s_CopiesBase_relation) [] [] a.CopiesBase_relation fd
  M_CopiesBase_relation : Meth K a.CopiesBase "relation" a.CopiesBase_relation
  F_is_made : ∃ fd, FunD K "is_made" "is_made" (defArgs s_is_made) (defBody s_is_made) (defScope s_is_made) [] [] a.is_made fd
  g_is_made : mg "is_made" = some (.ref a.is_made)
  F_two_lots : ∃ fd, FunD K "two_lots" "two_lots" (defArgs s_two_lots) (defBody s_two_lots) (defScope s_two_lots) [] [] a.two_lots fd
  g_two_lots : mg "two_lots" = some (.ref a.two_lots)
  F_stuck : ∃ fd, FunD K "stuck" "stuck" (defArgs s_stuck) (defBody s_stuck) (defScope s_stuck) [] [] a.stuck fd
  g_stuck : mg "stuck" = some (.ref a.stuck)
  F_hold_of : ∃ fd, FunD K "hold_of" "hold_of" (defArgs s_hold_of) (defBody s_hold_of) (defScope s_hold_of) [] [] a.hold_of fd
  g_hold_of : mg "hold_of" = some (.ref a.hold_of)
  F_Moment_init : ∃ fd, FunD K "__init__" "Moment.__init__" (defArgs s_Moment_init) (defBody s_Moment_init) (defScope s_Moment_init) [] [] a.Moment_init fd
  F_Moment_behind : ∃ fd, FunD K "behind" "Moment.behind" (defArgs s_Moment_behind) (defBody s_Moment_behind) (defScope s_Moment_behind) [] [] a.Moment_behind fd
  M_Moment_behind : Meth K a.Moment "behind" a.Moment_behind
  F_Game_init : ∃ fd, FunD K "__init__" "Game.__init__" (defArgs s_Game_init) (defBody s_Game_init) (defScope s_Game_init) [] [] a.Game_init fd
  F_Game_now : ∃ fd, FunD K "now" "Game.now" (defArgs s_Game_now) (defBody s_Game_now) (defScope s_Game_now) [] [] a.Game_now fd
  M_Game_now : Meth K a.Game "now" a.Game_now
  F_Game_free_rows : ∃ fd, FunD K "free_rows" "Game.free_rows" (defArgs s_Game_free_rows) (defBody s_Game_free_rows) (defScope s_Game_free_rows) [] [] a.Game_free_rows fd
  M_Game_free_rows : Meth K a.Game "free_rows" a.Game_free_rows
  F_Game_is_kept : ∃ fd, FunD K "is_kept" "Game.is_kept" (defArgs s_Game_is_kept) (defBody s_Game_is_kept) (defScope s_Game_is_kept) [] [] a.Game_is_kept fd
  M_Game_is_kept : Meth K a.Game "is_kept" a.Game_is_kept
  F_Game_is_lost : ∃ fd, FunD K "is_lost" "Game.is_lost" (defArgs s_Game_is_lost) (defBody s_Game_is_lost) (defScope s_Game_is_lost) [] [] a.Game_is_lost fd
  M_Game_is_lost : Meth K a.Game "is_lost" a.Game_is_lost
  F_Game_turn : ∃ fd, FunD K "turn" "Game.turn" (defArgs s_Game_turn) (defBody s_Game_turn) (defScope s_Game_turn) [] [] a.Game_turn fd
  M_Game_turn : Meth K a.Game "turn" a.Game_turn
  F_Game_winner_at : ∃ fd, FunD K "winner_at" "Game.winner_at" (defArgs s_Game_winner_at) (defBody s_Game_winner_at) (defScope s_Game_winner_at) [] [] a.Game_winner_at fd
  M_Game_winner_at : Meth K a.Game "winner_at" a.Game_winner_at
  F_Game_winner : ∃ fd, FunD K "winner" "Game.winner" (defArgs s_Game_winner) (defBody s_Game_winner) (defScope s_Game_winner) [] [] a.Game_winner fd
  M_Game_winner : Meth K a.Game "winner" a.Game_winner
  F_Game_winning : ∃ fd, FunD K "winning" "Game.winning" (defArgs s_Game_winning) (defBody s_Game_winning) (defScope s_Game_winning) [] [] a.Game_winning fd
  M_Game_winning : Meth K a.Game "winning" a.Game_winning
  F_Game_take : ∃ fd, FunD K "take" "Game.take" (defArgs s_Game_take) (defBody s_Game_take) (defScope s_Game_take) [] [] a.Game_take fd
  M_Game_take : Meth K a.Game "take" a.Game_take
  F_is_row : ∃ fd, FunD K "is_row" "is_row" (defArgs s_is_row) (defBody s_is_row) (defScope s_is_row) [] [] a.is_row fd
  g_is_row : mg "is_row" = some (.ref a.is_row)
  F_width_of : ∃ fd, FunD K "width_of" "width_of" (defArgs s_width_of) (defBody s_width_of) (defScope s_width_of) [] [] a.width_of fd
  g_width_of : mg "width_of" = some (.ref a.width_of)
  F_Base_init : ∃ fd, FunD K "__init__" "Base.__init__" (defArgs s_Base_init) (defBody s_Base_init) (defScope s_Base_init) [] [] a.Base_init fd
  F_Base_left_of : ∃ fd, FunD K "left_of" "Base.left_of" (defArgs s_Base_left_of) (defBody s_Base_left_of) (defScope s_Base_left_of) [] [] a.Base_left_of fd
  M_Base_left_of : Meth K a.Base "left_of" a.Base_left_of
  F_Base_relation : ∃ fd, FunD K "relation" "Base.relation" (defArgs s_Base_relation) (defBody s_Base_relation) (defScope s_Base_relation) [] [] a.Base_relation fd
  M_Base_relation : Meth K a.Base "relation" a.Base_relation
  F_Base_add : ∃ fd, FunD K "add" "Base.add" (defArgs s_Base_add) (defBody s_Base_add) (defScope s_Base_add) [] [] a.Base_add fd
  M_Base_add : Meth K a.Base "add" a.Base_add
  F_Rows_init : ∃ fd, FunD K "__init__" "Rows.__init__" (defArgs s_Rows_init) (defBody s_Rows_init) (defScope s_Rows_init) [.int 0] [] a.Rows_init fd
  F_Rows_field : ∃ fd, FunD K "field" "Rows.field" (defArgs s_Rows_field) (defBody s_Rows_field) (defScope s_Rows_field) [] [] a.Rows_field fd
  F_Rows_len : ∃ fd, FunD K "__len__" "Rows.__len__" (defArgs s_Rows_len) (defBody s_Rows_len) (defScope s_Rows_len) [] [] a.Rows_len fd
  M_Rows_len : Meth K a.Rows "__len__" a.Rows_len
  F_Rows_row_at : ∃ fd, FunD K "row_at" "Rows.row_at" (defArgs s_Rows_row_at) (defBody s_Rows_row_at) (defScope s_Rows_row_at) [] [] a.Rows_row_at fd
  M_Rows_row_at : Meth K a.Rows "row_at" a.Rows_row_at
  F_Rows_base_of : ∃ fd, FunD K "base_of" "Rows.base_of" (defArgs s_Rows_base_of) (defBody s_Rows_base_of) (defScope s_Rows_base_of) [] [] a.Rows_base_of fd
  M_Rows_base_of : Meth K a.Rows "base_of" a.Rows_base_of
  F__law_source : ∃ fd, FunD K "_law_source" "_law_source" (defArgs s__law_source) (defBody s__law_source) (defScope s__law_source) [] [] a._law_source fd
  g__law_source : mg "_law_source" = some (.ref a._law_source)
  F__law_draw : ∃ fd, FunD K "_law_draw" "_law_draw" (defArgs s__law_draw) (defBody s__law_draw) (defScope s__law_draw) [] [] a._law_draw fd
  g__law_draw : mg "_law_draw" = some (.ref a._law_draw)
  F__law_pick : ∃ fd, FunD K "_law_pick" "_law_pick" (defArgs s__law_pick) (defBody s__law_pick) (defScope s__law_pick) [] [] a._law_pick fd
  g__law_pick : mg "_law_pick" = some (.ref a._law_pick)
  F__law_field : ∃ fd, FunD K "_law_field" "_law_field" (defArgs s__law_field) (defBody s__law_field) (defScope s__law_field) [] [] a._law_field fd
  g__law_field : mg "_law_field" = some (.ref a._law_field)
  F__law_rows : ∃ fd, FunD K "_law_rows" "_law_rows" (defArgs s__law_rows) (defBody s__law_rows) (defScope s__law_rows) [] [] a._law_rows fd
  g__law_rows : mg "_law_rows" = some (.ref a._law_rows)
  F__law_made : ∃ fd, FunD K "_law_made" "_law_made" (defArgs s__law_made) (defBody s__law_made) (defScope s__law_made) [] [] a._law_made fd
  g__law_made : mg "_law_made" = some (.ref a._law_made)
  F__law_divisor : ∃ fd, FunD K "_law_divisor" "_law_divisor" (defArgs s__law_divisor) (defBody s__law_divisor) (defScope s__law_divisor) [] [] a._law_divisor fd
  g__law_divisor : mg "_law_divisor" = some (.ref a._law_divisor)
  F__law_game : ∃ fd, FunD K "_law_game" "_law_game" (defArgs s__law_game) (defBody s__law_game) (defScope s__law_game) [] [] a._law_game fd
  g__law_game : mg "_law_game" = some (.ref a._law_game)
  F__law_columns : ∃ fd, FunD K "_law_columns" "_law_columns" (defArgs s__law_columns) (defBody s__law_columns) (defScope s__law_columns) [] [] a._law_columns fd
  g__law_columns : mg "_law_columns" = some (.ref a._law_columns)
  F__law_less : ∃ fd, FunD K "_law_less" "_law_less" (defArgs s__law_less) (defBody s__law_less) (defScope s__law_less) [] [] a._law_less fd
  g__law_less : mg "_law_less" = some (.ref a._law_less)
  F__law_lean : ∃ fd, FunD K "_law_lean" "_law_lean" (defArgs s__law_lean) (defBody s__law_lean) (defScope s__law_lean) [] [] a._law_lean fd
  g__law_lean : mg "_law_lean" = some (.ref a._law_lean)
  F__law_turned : ∃ fd, FunD K "_law_turned" "_law_turned" (defArgs s__law_turned) (defBody s__law_turned) (defScope s__law_turned) [] [] a._law_turned fd
  g__law_turned : mg "_law_turned" = some (.ref a._law_turned)
  F_law : ∃ fd, FunD K "law" "law" (defArgs s_law) (defBody s_law) (defScope s_law) [] [] a.law fd
  g_law : mg "law" = some (.ref a.law)
  P_field : PropOf K a.Rows "field" a.p_field a.Rows_field
  g_KEEP : ∃ t, mg "KEEP" = some (.str ("keep" : Str) t)
  g_CUT : ∃ t, mg "CUT" = some (.str ("cut" : Str) t)
  g_MOST_ROWS : ∃ t, mg "MOST_ROWS" = some (.int 60 t)
  g_MOST_WIDTH : ∃ t, mg "MOST_WIDTH" = some (.int 12 t)
  g_FIELDS : mg "FIELDS" = some (.ref a.FIELDS)
  t_FIELDS : ∀ H, SqT K H a.FIELDS ([0, 2, 3, 5, 7, 11, 13].map V.int)
  b_len : mg "len" = none
  b_abs : mg "abs" = none
  b_list : mg "list" = none
  b_set : mg "set" = none
  b_sorted : mg "sorted" = none
  b_int : mg "int" = none
  b_isinstance : mg "isinstance" = none
  b_tuple : mg "tuple" = none
  b_any : mg "any" = none
  b_all : mg "all" = none
  b_dict : mg "dict" = none
  b_range : mg "range" = none
  b_enumerate : mg "enumerate" = none
  b_zip : mg "zip" = none
  b_str : mg "str" = none
  b_bool : mg "bool" = none
end FL
/-! Short words over the layer: a def kept (Fn), calls of it. -/
set_option Elab.async false
set_option linter.all false
set_option maxRecDepth 100000
set_option maxHeartbeats 4000000
namespace FL
open PySem PySem.Spec PyProof.Rows L2
/-- a def at f keeps the promise sp, every argument written -/
structure Fn (P : Program) (w : World) (K : PySem.W.Frag) (mg : Str → Option Value) (base : Heap) (k : Nat) (f : Addr) (sp : Sp) : Prop where
  ex : ∃ (fd : FuncData) (ps : List Str), FnOk P w K mg base CX0 k f fd ps sp ∧ Binds K fd ps []
  kp : PySem.W.keepIn K (.ref f) = true
section
variable {P : Program} {w : World} {K : PySem.W.Frag} {mg : Str → Option Value} {base : Heap} {k j : Nat} {f : Addr} {sp : Sp}
theorem Fn.mono (F : Fn P w K mg base j f sp) (h : j ≤ k) : Fn P w K mg base k f sp := by
  obtain ⟨⟨fd, ps, a, b⟩, c⟩ := F
  exact ⟨⟨fd, ps, a.mono h, b⟩, c⟩
/-- a def without defaults -/
theorem fn_d {x qual : Str} {st : Stmt} {N ps : List Str} (F : ∃ fd, FunD K x qual (defArgs st) (defBody st) (defScope st) [] [] f fd) (S : FnScope N ps (defScope st))
    (h : ∀ (kV doc pm : Value) (an : Option Addr) (cdv ct : Value) (us : List Value), us.length = ps.length → bindArgs (PySem.W.fnOf x qual (defArgs st) (defBody st) (defScope st) .none kV doc pm an cdv ct) ⟨us, []⟩ = pure (ps.zip us))
    (len : ∀ vs H Q E, sp vs H Q E → vs.length = ps.length)
    (hbody : ∀ (cdv : Value) (A : Around) (outer : List Env) (s : Shared) (H : Hp) (vs : List V) (Q : VK) (E : XK), Room k (A.deeper (envOfC qual (defScope st) s.heap.objs.size f cdv)) → sp vs H Q E →
      ∃ t, PSs (cxOf CX0 P w K mg base N qual (defScope st) f cdv A outer s H E).nox (defBody st) t ∧ t { nx := fun _ H' => Q .non H', rt := Q } (start N vs) H) : Fn P w K mg base (k + 1) f sp := by
  obtain ⟨fd, F⟩ := F
  refine ⟨⟨fd, ps, F.ok S len fun cdv A outer s H vs Q E hr hsp => ?_, F.bindsN h⟩, F.kp⟩
  obtain ⟨t, h1, h2⟩ := hbody cdv A outer s H vs Q E hr hsp
  exact ⟨t, h1.nox, h2⟩
end
noncomputable section
variable {P : Program} {w : World} {K : PySem.W.Frag} {mg : Str → Option Value} {base : Heap} {k j : Nat} {f : Addr} {sp : Sp}
def Fn.fd (F : Fn P w K mg base k f sp) : FuncData := F.ex.choose
def Fn.ps (F : Fn P w K mg base k f sp) : List Str := F.ex.choose_spec.choose
theorem Fn.ok (F : Fn P w K mg base k f sp) : FnOk P w K mg base CX0 k f F.fd F.ps sp := F.ex.choose_spec.choose_spec.1
theorem Fn.b (F : Fn P w K mg base k f sp) : Binds K F.fd F.ps [] := F.ex.choose_spec.choose_spec.2
end
theorem itT {b : Bool} {A B : Prop} (h : b = true) (x : A) : if b = true then A else B := by
  rw [if_pos h]
  exact x
theorem itF {b : Bool} {A B : Prop} (h : b = false) (x : B) : if b = true then A else B := by
  rw [if_neg (by rw [h]; decide)]
  exact x
theorem same_upd {H : Hp} {p : Addr} {o : HO} (h : H p = none) : Same H (upd H p o) := fun b x e => by
  rw [upd_ne (ne_of_none e h)]
  exact e
theorem same_tup {K : PySem.W.Frag} {H H' : Hp} {a : Addr} {xs : List V} (e : Same H H') (h : SqT K H a xs) : SqT K H' a xs := by
  rcases h with (h | ⟨o, h⟩) | h
  · exact .inl (.inl (e _ _ h))
  · exact .inl (.inr ⟨o, e _ _ h⟩)
  · exact .inr h
/-- a new object may change, seen from where it was not yet -/
theorem same_chg {H H' : Hp} {p : Addr} {o : HO} (s : Same H H') (n : H p = none) : Same H (upd H' p o) := fun b x e => by
  rw [upd_ne (ne_of_none e n)]
  exact s b x e
/-! ### a comprehension whose new list is told by the turns -/
section
variable {J : It} {n : Nat} {G : Hp → Prop} {Y : Nat → Hp → V → Hp → Prop}
/-- what stands at D behind i turns -/
def LcAt (H1 : Hp) (D : Addr) (F : Nat → Option V) (i : Nat) (H : Hp) : Prop := Same H1 H ∧ H D = some (.lst ((List.range i).filterMap F))
theorem lc_w (w : Walk J n G Y) {g : TG} {tt : TT} {te : TE} {vs : List Nat} {σ : L2.St} {H1 : Hp} {D : Addr} {Qd : Hp → Prop} (F : Nat → Option V) (nD : H1 D = none) (hn : n ≤ 100000) (hG : ∀ H, Same H1 H → G H)
    (hs : ∀ i x H H', i < n → Same H1 H → Y i H x H' → (∀ y H4, F i = some y → Same H H4 → ∃ acc, H4 D = some (.lst acc) ∧ acc.length < sizeLine ∧ LcAt H1 D F (i + 1) (upd H4 D (.lst (acc ++ [y])))) → (∀ H3, F i = none → Same H H3 → LcAt H1 D F (i + 1) H3) →
      g x (wipe σ vs) H' fun σ2 H2 => wipe σ2 vs = wipe σ vs ∧ tt σ2 H2 fun b H3 =>
      if b = true then te σ2 H3 fun y H4 => ∃ acc, H4 D = some (.lst acc) ∧ acc.length < sizeLine ∧ LcAt H1 D F (i + 1) (upd H4 D (.lst (acc ++ [y]))) else LcAt H1 D F (i + 1) H3)
    (hd : ∀ H, Same H1 H → H D = some (.lst ((List.range n).filterMap F)) → Qd H) :
    ∃ W : Nat → Nat → Hp → Prop, (∃ m, W 0 m (upd H1 D (.lst []))) ∧ ∀ i m H, W i m H →
      (J.stop i H ∧ Qd H) ∨ (J.go i H ∧ ∃ Nx : Hp → Prop, (∀ H', Nx H' → ∃ m', m' < m ∧ W (i + 1) m' H') ∧ ∀ x H', J.yld i H x H' → g x (wipe σ vs) H' fun σ2 H2 => wipe σ2 vs = wipe σ vs ∧ tt σ2 H2 fun b H3 =>
        if b = true then te σ2 H3 fun y H4 => ∃ acc, H4 D = some (.lst acc) ∧ acc.length < sizeLine ∧ Nx (upd H4 D (.lst (acc ++ [y]))) else Nx H3) := by
  refine lc_it w (LcAt H1 D F) ⟨same_upd nD, upd_same⟩ (fun i H _ p => hG H p.1) (fun i x H H' hi p y => hs i x H H' hi p.1 y (fun y H4 hF s => ?_) fun H3 hF s => ?_) fun H p => hd H p.1 p.2
  · refine ⟨_, s _ _ p.2, ?_, same_chg (p.1.trans s) nD, ?_⟩
    · refine Nat.lt_of_le_of_lt (List.length_filterMap_le _ _) ?_
      rw [List.length_range]
      exact Nat.lt_of_lt_of_le hi (Nat.le_trans hn (by decide))
    · rw [upd_same, List.range_succ, List.filterMap_append]
      show some (HO.lst (_ ++ [y])) = some (HO.lst (_ ++ List.filterMap F [i]))
      rw [List.filterMap_cons, hF]
      rfl
  · refine ⟨p.1.trans s, ?_⟩
    rw [s _ _ p.2, List.range_succ, List.filterMap_append, List.filterMap_cons, hF, List.filterMap_nil, List.append_nil]
/-- the same, the items told by a relation that stands while all but D stands -/
def LcRel (H1 : Hp) (D : Addr) (R : Nat → V → Hp → Prop) (i : Nat) (H : Hp) : Prop := Same H1 H ∧ ∃ acc : List V, H D = some (.lst acc) ∧ acc.length = i ∧ ∀ j y, acc[j]? = some y → R j y H
theorem lc_wR (w : Walk J n G Y) {g : TG} {te : TE} {vs : List Nat} {σ : L2.St} {H1 : Hp} {D : Addr} {Qd : Hp → Prop} (R : Nat → V → Hp → Prop) (nD : H1 D = none) (hn : n ≤ 100000) (hG : ∀ H, Same H1 H → G H)
    (hR : ∀ j y H H', R j y H → (∀ b o, b ≠ D → H b = some o → H' b = some o) → R j y H')
    (hs : ∀ i x H H', i < n → LcRel H1 D R i H → Y i H x H' → (∀ y H4, R i y H4 → Same H H4 → ∃ acc, H4 D = some (.lst acc) ∧ acc.length < sizeLine ∧ LcRel H1 D R (i + 1) (upd H4 D (.lst (acc ++ [y])))) →
      g x (wipe σ vs) H' fun σ2 H2 => wipe σ2 vs = wipe σ vs ∧ te σ2 H2 fun y H4 => ∃ acc, H4 D = some (.lst acc) ∧ acc.length < sizeLine ∧ LcRel H1 D R (i + 1) (upd H4 D (.lst (acc ++ [y]))))
    (hd : ∀ H acc, Same H1 H → H D = some (.lst acc) → acc.length = n → (∀ j y, acc[j]? = some y → R j y H) → Qd H) :
    ∃ W : Nat → Nat → Hp → Prop, (∃ m, W 0 m (upd H1 D (.lst []))) ∧ ∀ i m H, W i m H →
      (J.stop i H ∧ Qd H) ∨ (J.go i H ∧ ∃ Nx : Hp → Prop, (∀ H', Nx H' → ∃ m', m' < m ∧ W (i + 1) m' H') ∧ ∀ x H', J.yld i H x H' → g x (wipe σ vs) H' fun σ2 H2 => wipe σ2 vs = wipe σ vs ∧ tYes σ2 H2 fun b H3 =>
        if b = true then te σ2 H3 fun y H4 => ∃ acc, H4 D = some (.lst acc) ∧ acc.length < sizeLine ∧ Nx (upd H4 D (.lst (acc ++ [y]))) else Nx H3) := by
  refine lc_it w (LcRel H1 D R) ⟨same_upd nD, [], upd_same, rfl, fun j y h => by simp at h⟩ (fun i H _ p => hG H p.1) (fun i x H H' hi p y => hs i x H H' hi p y fun y H4 hr s => ?_) fun H p => ?_
  · obtain ⟨p1, acc, hD, hl, hr'⟩ := p
    have oth : ∀ b o, b ≠ D → H4 b = some o → upd H4 D (.lst (acc ++ [y])) b = some o := fun b o hb e => by rw [upd_ne hb]; exact e
    refine ⟨acc, s _ _ hD, ?_, same_chg (p1.trans s) nD, acc ++ [y], upd_same, by rw [List.length_append, hl]; rfl, fun j z hz => ?_⟩
    · rw [hl]; exact Nat.lt_of_lt_of_le hi (Nat.le_trans hn (by decide))
    · by_cases hj : j < acc.length
      · rw [List.getElem?_append_left hj] at hz
        exact hR j z H _ (hr' j z hz) fun b o hb e => oth b o hb (s b o e)
      · rw [List.getElem?_append_right (by omega)] at hz
        have hj' : j - acc.length = 0 := Nat.eq_zero_of_not_pos fun hp => by
          rw [List.getElem?_eq_none (by show 1 ≤ _; omega)] at hz
          cases hz
        rw [hj'] at hz
        have e : y = z := Option.some.inj hz
        have ej : j = i := by omega
        subst e ej
        exact hR _ _ H4 _ hr oth
  · obtain ⟨p1, acc, hD, hl, hr⟩ := p
    exact hd H acc p1 hD hl hr
end
theorem range_fmK {α β : Type} (xs : List α) (f : α → Option β) : ∀ k, (List.range k).filterMap (fun i => xs[i]?.bind f) = (xs.take k).filterMap f
  | 0 => rfl
  | k + 1 => by
    rw [List.range_succ, List.filterMap_append, range_fmK xs f k, List.take_add_one, List.filterMap_append]
    congr 1
    cases e : xs[k]? with
    | none => simp [e]
    | some x =>
      cases e2 : f x <;> simp [e, e2]
theorem range_fm {α β : Type} (xs : List α) (f : α → Option β) : (List.range xs.length).filterMap (fun i => xs[i]?.bind f) = xs.filterMap f := by
  rw [range_fmK, List.take_length]
theorem fm_some {α β : Type} (f : α → β) (xs : List α) : xs.filterMap (fun x => some (f x)) = xs.map f := by
  rw [← List.filterMap_eq_map]
  rfl
theorem fm_range {β : Type} (f : Nat → β) (n : Nat) : (List.range n).filterMap (fun i => some (f i)) = (List.range n).map f := fm_some f _
theorem fm_filter {α β : Type} (p : α → Bool) (f : α → β) (xs : List α) : xs.filterMap (fun x => if p x then some (f x) else none) = (xs.filter p).map f := by
  induction xs with
  | nil => rfl
  | cons x xs ih =>
    rw [List.filterMap_cons, List.filter_cons]
    by_cases h : p x
    · simp [h, ih]
    · simp [h, ih]
section
variable {X : Cx} {K : PySem.W.Frag}
/-! ### rules that name the written part, for a comprehension's inside -/
theorem pe_fldK {e : Expr} {f : Str} {pos : Pos} {ta : TE} (he : PE X e ta) (hb : attributeBase e f X.env (eval e X.env) = eval e X.env) (hK : X.K = K := by rfl) : PE X (.Attribute e f pos) (tFld K ta f) := by
  subst hK
  exact pe_fld he hb
theorem ix_listK (hK : X.K = K := by rfl) : IxR X (rIxL K) := by
  subst hK
  exact ix_list
theorem ix_tupK (hK : X.K = K := by rfl) : IxR X (rIxT K) := by
  subst hK
  exact ix_tup
theorem op_in_seqK (hK : X.K = K := by rfl) : OpR X (compareOp .In) (rIn K false) := by
  subst hK
  exact op_in_seq
theorem op_notIn_seqK (hK : X.K = K := by rfl) : OpR X (compareOp .NotIn) (rIn K true) := by
  subst hK
  exact op_notIn_seq
theorem call_list_ofK (hK : X.K = K := by rfl) : CallR X (.type "list") (fun xs H Q => ∃ p ys, xs = [.ref p] ∧ (SqL K H p ys ∨ SqT K H p ys) ∧ ∀ l, H l = none → Q (.ref l) (upd H l (.lst ys))) := by
  subst hK
  exact call_list_of
theorem call_tuple_ofK (hK : X.K = K := by rfl) : CallR X (.type "tuple") (fun xs H Q => ∃ p ys, xs = [.ref p] ∧ ((SqL K H p ys ∧ ∀ l, H l = none → Q (.ref l) (upd H l (.tup ys))) ∨ (SqT K H p ys ∧ Q (.ref p) H))) := by
  subst hK
  exact call_tuple_of
theorem cr_sortedK (hK : X.K = K := by rfl) : CallR X (.builtin "sorted") (rSorted K) := by
  subst hK
  exact cr_sorted
theorem pi_listK {tg l : Expr} {tl : TE} (hl : PE X l tl) (hK : X.K = K := by rfl) : PI X tg l (iList K tl) := by
  subst hK
  exact pi_list hl
/-- a target of two names -/
theorem pg_two (i j : Nat) {x y : Str} {k : Nat} {p q pos : Pos} (hN : X.N.Nodup) (hc : X.calm = true := by rfl) (hi : X.N[i]? = some x := by rfl) (hj : X.N[j]? = some y := by rfl)
    (hx : Loc X.env.scope x := by first | exact Or.inl rfl | exact Or.inr rfl) (hy : Loc X.env.scope y := by first | exact Or.inl rfl | exact Or.inr rfl)
    (fx : X.fn x = true ∨ X.env.scope.names.lookup x = some .local := by first | exact Or.inl rfl | exact Or.inr rfl) (fy : X.fn y = true ∨ X.env.scope.names.lookup y = some .local := by first | exact Or.inl rfl | exact Or.inr rfl) (hK : X.K = K := by rfl) :
    PG X (.Tuple [.Name x p, .Name y q] k pos) (gTup K 2 (gCons (gName i) (gCons (gName j) gNil))) := by
  subst hK
  exact pg_tup hc (pgs_cons (pg_name hN hi hx fx) (pgs_cons (pg_name hN hj hy fy) pgs_nil))
end
end FL
/-! Further rules over the layer: a dict starred in a display, dict(zip(..)), d.update(d2), set(list of ints), len of an own instance. -/
set_option Elab.async false
set_option linter.all false
set_option maxRecDepth 100000
set_option maxHeartbeats 4000000
namespace FL
open PySem PySem.Spec PyProof.Rows L2
section
variable {X : Cx} {pins : List (Addr × Obj)} {σ : L2.St} {H : Hp} {s : Shared}
/-! ### a dict starred in a display: its keys -/
theorem star_dk {p : Addr} {kvs : List (Key × V)} {E : Value → Shared → Prop} {Q : List Value → Shared → Prop} (I : Inv X pins σ H s) (hc : X.calm = true) (h : Rd H p (.dK kvs))
    (hQ : ∀ us s', Inv X pins σ H s' → Vals (kvs.map fun kv => kV kv.1) us → Q us s') : PySem.W.StarOf (model X.prog X.w) X.A E (.ref p) Q s := by
  obtain ⟨z, lo, vs, rel, dd⟩ := dk_rd I.hok h
  obtain ⟨ep, at_⟩ := dd.dictAt
  have ek : (kvs.map fun kv => kV kv.1) = vs.map fun q => kV q.1 := by
    have e := congrArg (List.map kV) rel.keys
    rw [List.map_map, List.map_map] at e
    exact e
  have hz : vs.length ≤ sizeLine := by rw [← rel.length]; exact z
  have hT : s.TypeIs (.ref p) "dict" := by
    obtain ⟨o, es, ep, ho, x, _⟩ := dd
    exact ⟨o, ho, x.1⟩
  unfold PySem.W.StarOf notIterableAtAll
  refine wpAny_bind (wpAny_specialOf hT PySem.F.slot_dict_iter.lookup (wpAny_pure ⟨rfl, ?_⟩))
  refine PySem.W.kdu_collect (PySem.W.kdl_dict (knd := mixKind X.prog X.w) (kvs := vs) (ep := ep) lo) (I.ok.hd hc) at_ hz fun h' tk acc hk hacc => ?_
  refine hQ _ _ (I.kept hk) ?_
  rw [ek]
  exact keys_at (by rw [Array.length_toList]; exact hacc.1) fun j v e => hacc.2 j v (by rw [← Array.getElem?_toList]; exact e)
def tStarD (te : TE) (t : TA) : TA := fun σ H Q => te σ H fun x H1 => ∃ p kvs, x = V.ref p ∧ Rd H1 p (.dK kvs) ∧ t σ H1 fun ys H2 => Q ((kvs.map fun kv => kV kv.1) ++ ys) H2
theorem pa_starD {e : Expr} {es : List Expr} {te : TE} {t : TA} {p : Pos} (he : PE X e te) (hr : PA X es t) (hc : X.calm = true := by rfl) (hs : starEach (.Starred e p :: es) X.env = (true, eval e X.env) :: starEach es X.env := by rfl) : PA X (.Starred e p :: es) (tStarD te t) := by
  refine ⟨fun pos pins s σ H Q I h => PySem.W.items_star (thn (he.run pins s σ H _ I h) fun v s1 h1 => ?_) hs⟩
  obtain ⟨y, H1, I1, ry, q, kvs, ey, hx, k⟩ := h1
  subst ey
  obtain rfl : v = Value.ref q := ry
  exact star_dk I1 hc hx fun us s2 I2 rv => thn (hr.run pos pins s2 σ H1 _ I2 k) fun ws s3 ⟨vs, H3, I3, r3, q3⟩ => ⟨_, H3, I3, rv.append r3, q3⟩
end
/-! ### set(xs) of a list of ints -/
section
variable {P : Program} {w : World} {A : Around} {E : Value → Shared → Prop} {s : Shared}
abbrev setObj0 (w : World) : Obj := { cls := .type "set", dict := none, data := .set #[] 0 (.fresh 0 0 (!w.params.followText "set-order")) }
theorem call_set_ints {l : Addr} {its : Array Value} (ns : List Int) {Q : Value → Shared → Prop} (h0 : A.handled = none) (hl : s.heap.IsList l its) (hi : IntsAre its.toList ns) (hb : ns.length + 1 < scanBound)
    (k : ∀ (h' : Heap) (tk c : Nat), SetR w h' s.heap.objs.size (fun j => decide (j ∈ ns)) c → c ≤ ns.length → (∀ b o, s.heap.get? b = some o → h'.get? b = some o) → Q (.ref s.heap.objs.size) { s with heap := h', toks := tk }) : wpAny (model P w) A (call (.type "set") [.ref l]) Q E s := by
  have en : its.size = ns.length := (Array.length_toList (xs := its)).symm.trans (IntsAre.length hi)
  obtain ⟨cc, tt, mro⟩ := F.called_set.mro
  have md := F.called_set.made
  have sb := F.called_set.sub
  refine wpAny_call (codeAny_of_tree (show wpAny _ _ (callAny (.type "set") _) _ _ _ from wpAny_pure ⟨Code.quiet_builtin _ (by decide +kernel), codeAny_builtin F.entry_type_call ?_⟩))
  rw [Around.under_plain (weight_type_call_type "set" [.ref l] []) rfl]
  have nt := F.called_set.notType
  have cr := F.called_set.canCreate
  have tc := F.typeCall_set_1 (.ref l)
  repeat (any_goals (first | assumption | wp_step))
  refine codeAny_mono (code_set_led1 (.ref l) (E := E) (Q₁ := fun ob s1 => ob = .ref s.heap.objs.size ∧ s1 = { s with heap := s.heap.push (setObj0 w) }) ⟨rfl, rfl⟩) fun r s1 hr => ?_
  match r, hr with
  | .error e, hr => exact hr
  | .ok .next, hr => exact hr.elim
  | .ok .brk, hr => exact hr.elim
  | .ok .cont, hr => exact hr.elim
  | .ok (.ret ob), hr =>
    obtain ⟨rfl, rfl⟩ := hr
    have gS : (s.heap.push (setObj0 w)).get? s.heap.objs.size = some (setObj0 w) := Heap.get?_push_size _ rfl
    have tS : Shared.TypeIs { s with heap := s.heap.push (setObj0 w) } (.ref s.heap.objs.size) "set" := ⟨_, gS, rfl⟩
    have li := F.called_set.init.lookup
    have bi := F.called_set.init.bind (.ref s.heap.objs.size)
    repeat (any_goals (first | assumption | wp_step))
    refine codeAny_mono (codeAny_call_builtin (R := wants (fun r s2 => r = .none ∧ ∃ h' tk c, s2 = { s with heap := h', toks := tk } ∧ SetR w h' s.heap.objs.size (fun j => decide (j ∈ ns)) c ∧ c ≤ ns.length ∧ ∀ b o, s.heap.get? b = some o → h'.get? b = some o) E)
      F.called_set.init.plain F.entry_set_init (check_set_init_1 tS ?_)) fun r2 s2 h2 => ?_
    · obtain ⟨⟨oc, od, odt, os⟩, ho, hcl, nl, hdl⟩ := hl
      simp only at hcl hdl
      subst hcl hdl
      have ho' : (s.heap.push (setObj0 w)).get? l = some { cls := .type "list", dict := od, data := .seq its nl, slots := os } := Heap.get?_push_of_some _ ho
      have s1 := F.sub_list_set
      have s2 := F.sub_list_frozenset
      have nd : (Value.type "list" == Value.type "dict") = false := by decide
      have hl1 : (s.heap.push (setObj0 w)).IsList l its := ⟨_, ho', rfl, nl, rfl⟩
      unfold Builtin.«set.__init__» noKeywords Builtin.Frozenset.updateFrom
      generalize eP : pyIter = PI
      wp_walk
      subst eP
      refine wpAny_pyIter_list hl1 (wpAny_bind (wpAny_runValue ?_))
      have lS : l < s.heap.objs.size := Heap.lt_size ho
      have h3 : A.in1.in1.in1.handled = none := by simp [h0]
      have neI : l ≠ (s.heap.push (setObj0 w)).objs.size := by rw [Heap.size_push]; exact Nat.ne_of_lt (Nat.lt_succ_of_lt lS)
      have offS : s.heap.objs.size ∉ [(s.heap.push (setObj0 w)).objs.size, l] := by
        rw [Heap.size_push]
        simp only [List.mem_cons, List.mem_singleton, List.not_mem_nil, or_false, not_or]
        exact ⟨Nat.ne_of_lt (Nat.lt_succ_self _), Nat.ne_of_gt lS⟩
      have val : ∀ (i : Nat) (v : Value), its[i]? = some v → ∃ k t, ns[i]? = some k ∧ v = .int k t := fun i v hv => by
        have hin : i < ns.length := by rw [← en]; exact (Array.getElem?_eq_some_iff.mp hv).1
        obtain ⟨t, e⟩ := IntsAre.int_at hi i v (by rw [Array.getElem?_toList]; exact hv)
        exact ⟨ns[i], t, List.getElem?_eq_getElem hin, by rw [e, List.getD_eq_getElem?_getD, List.getElem?_eq_getElem hin]; rfl⟩
      refine set_update_ints ((Walks.list h3 _ l neI its).toS) s.heap.objs.size offS ns en hb val (its.size - 0) 0 _ (by omega) (Nat.zero_le _) ⟨⟨_, Heap.get?_push_size _ rfl, rfl, rfl⟩, hl1.push _⟩ ?_ ?_
      · exact ⟨0, Nat.le_refl 0, setR_new_at (Heap.get?_push_of_some _ gS)⟩
      · intro t c hm hc hS
        obtain ⟨h', g', d', tk', o'⟩ := t
        obtain rfl : g' = s.gens := hm.gens
        obtain rfl : d' = s.drawn := hm.drawn
        obtain rfl : o' = s.os := hm.os
        refine (show wpAny _ _ _ _ _ _ from wpAny_pure (show wpAny _ _ (ret Value.none) _ _ _ from wpAny_pure ⟨rfl, h', tk', c, rfl, hS, by rw [← en]; exact hc, fun b o e => ?_⟩))
        have hlt := Heap.lt_size e
        refine hm.heap b o ?_ (Heap.get?_push_of_some _ (Heap.get?_push_of_some _ e))
        rw [Heap.size_push]
        simp only [List.mem_cons, List.mem_singleton, List.not_mem_nil, or_false, not_or]
        exact ⟨Nat.ne_of_lt hlt, Nat.ne_of_lt (Nat.lt_succ_of_lt hlt)⟩
    · match r2, h2 with
      | .error e, h2 => exact h2
      | .ok .next, h2 => exact h2.elim
      | .ok .brk, h2 => exact h2.elim
      | .ok .cont, h2 => exact h2.elim
      | .ok (.ret r), h2 =>
        obtain ⟨rfl, h', tk, c, rfl, hS, hc, hk⟩ := h2
        repeat (any_goals (first | assumption | wp_step))
        exact k _ _ _ hS hc hk
end
section
variable {X : Cx}
def rSetI (K : PySem.W.Frag) (w : World) : List V → Hp → VK → Prop := fun xs H Q => ∃ (l : Addr) (ns : List Int), xs = [.ref l] ∧ SqL K H l (ns.map V.int) ∧ ns.length ≤ 1000 ∧
  ∀ p c, H p = none → c ≤ ns.length → Q (.ref p) (upd H p (SetO w p (fun j => decide (j ∈ ns)) c))
theorem cr_setOf (hc : X.calm = true) : CallR X (.type "set") (rSetI X.K X.w) := by
  intro pins s σ H xs us Q I r q
  obtain ⟨l, ns, rfl, hq, hn, q⟩ := q
  obtain ⟨u, rfl, rx⟩ := r.one
  cases rx
  obtain ⟨its, rv, pl, hz⟩ := I.list hq
  refine call_set_ints ns (I.ok.hd hc) pl.isList (by simpa using RZ.intsAre_vals rv) (by unfold scanBound; omega) fun h' tk c hS hcn hk => ?_
  exact ⟨.ref s.heap.objs.size, upd H s.heap.objs.size (SetO X.w s.heap.objs.size (fun j => decide (j ∈ ns)) c), I.laid (t' := tk) hk (Nat.le_refl _) (setO_new hS), rfl, q _ c (I.hok.fresh (Nat.le_refl _)) hcn⟩
end
end FL
/-! Further rules over the layer: dict(zip(keys, xs)), d.update(d2), len of an own instance. -/
set_option Elab.async false
set_option linter.all false
set_option maxRecDepth 100000
set_option maxHeartbeats 4000000
namespace FL
open PySem PySem.Spec PyProof.Rows L2
section
variable {X : Cx}
/-! ### d.update(d2) -/
def rUpd : V → List V → Hp → VK → Prop := fun x vs H Q => ∃ (d o : Addr) (kvs more : List (Key × V)), x = .ref d ∧ vs = [.ref o] ∧ d ≠ o ∧ H d = some (.dK kvs) ∧ H o = some (.dK more) ∧ kvs.length + more.length ≤ sizeLine ∧ Q .non (upd H d (.dK (mergeK kvs more)))
theorem mtd_update : MtR X "dict.update" rUpd := by
  intro pins s σ H x vs v us Q I rx rv h
  obtain ⟨d, o, kvs, more, rfl, rfl, hne, hd, ho, hz, q⟩ := h
  obtain rfl : v = Value.ref d := rx
  obtain ⟨u, rfl, ru⟩ := rv.one
  obtain rfl : u = Value.ref o := ru
  obtain ⟨zd, ld, vd, rd, dd⟩ := dk_of I.hok hd
  obtain ⟨zo, lo, vo, ro, dO⟩ := dk_of I.hok ho
  refine call_meetsIn PySem.F.slot_dict_update dd.typeIs PySem.F.entry_dict_update (PySem.F.args_dict_update_2 _ _) (meets_dict_update (mixKind X.prog X.w) d o hne lo) ⟨vd, vo, dd, dO, by rw [← rd.length, ← ro.length]; exact hz, fun h' dd' do' hs => ?_⟩
  have he : ∃ q, h'.get? d = some q := let ⟨q, _, _, hq, _⟩ := dd'; ⟨q, hq⟩
  have hl : (mergeK kvs more).length ≤ sizeLine := Nat.le_trans (length_mergeK more kvs) hz
  exact ⟨.non, _, d_write (t' := s.toks) I (by rw [hd]; exact True.intro) hs he (dk_new hl ld (KV.merge ro rd) dd'), rfl, q⟩
theorem pe_upd {o e : Expr} {to te : TE} {apos cpos : Pos} (ho : PE X o to) (he : PE X e te) (hbase : attributeBase o "update" X.env (eval o X.env) = eval o X.env := by rfl) (hline : (apos.endLine == cpos.line) = true := by rfl)
    (hs : starEach [e] X.env = (false, eval e X.env) :: starEach [] X.env := by rfl)
    (hfew : ((backTo cpos (starEach [e] X.env)).all (fun x => !x.1) && (backToKw cpos (keywordEach [] X.env)).all (fun x => x.1.isSome) && decide ([e].length + ([] : List Keyword).length + (if ([] : List Keyword).isEmpty then 0 else 1) < 30)) = true := by rfl)
    (hp : (backTo cpos (starEach [] X.env)).any (·.1) = false := by rfl) : PE X (.Call (.Attribute o "update" apos) [e] [] cpos) (tBM X.K "dict" rUpd to (tCons te tNil)) :=
  pe_bm PySem.F.plainAttrs_dict PySem.F.slot_dict_update PySem.F.type_dict_update mtd_update ho (pa_cons he pa_nil hs) hbase hfew hline hs hp
/-! ### dict(zip(xs, ys)) of two lists -/
def tDictZip (K : PySem.W.Frag) (ta : TA) : TE := fun σ H Q => ta σ H fun vs H1 => ∃ (a b : Addr) (ks : List Key) (ys : List V), vs = [.ref a, .ref b] ∧ SqL K H1 a (ks.map kV) ∧ SqL K H1 b ys ∧ ys.length = ks.length ∧
  ∀ p, H1 p = none → Q (.ref p) (upd H1 p (.dK (mergeK [] (ks.zip ys))))
theorem vals_at {xs : List V} {us : List Value} (r : Vals xs us) {i : Nat} {u : Value} (h : us[i]? = some u) : ∃ x, xs[i]? = some x ∧ RelV x u := by
  have hl := r.length
  have hi : i < xs.length := by rw [hl]; exact (List.getElem?_eq_some_iff.mp h).1
  obtain ⟨u', e, q⟩ := r.get (List.getElem?_eq_getElem hi)
  rw [h] at e
  cases e
  exact ⟨_, List.getElem?_eq_getElem hi, q⟩
theorem kv_zip : ∀ {ks : List Key} {ys : List V} {vs : List Value}, Vals ys vs → ys.length = ks.length → KV (ks.zip ys) (ks.zip vs)
  | [], [], _, .nil, _ => .nil
  | k :: ks, y :: ys, _, .cons r t, h => .cons ⟨rfl, r⟩ (kv_zip t (by simpa using h))
  | [], _ :: _, _, _, h => by simp at h
  | _ :: _, [], _, _, h => by simp at h
theorem pe_dictZip {e e2 : Expr} {ta : TA} {p p2 q pos : Pos} (hg : Gl X "dict") (hm : X.mg "dict" = none) (hg2 : Gl X "zip") (hm2 : X.mg "zip" = none) (ha : PA X [e, e2] ta) (hc : X.calm = true := by rfl)
    (na : starEach [.Call (.Name "zip" p2) [e, e2] [] q] X.env = (false, eval (.Call (.Name "zip" p2) [e, e2] [] q) X.env) :: starEach [] X.env := by rfl)
    (hs : starEach [e, e2] X.env = (false, eval e X.env) :: starEach [e2] X.env := by rfl) (hpl : (backTo q (starEach [e2] X.env)).any (·.1) = false := by rfl) :
    PE X (.Call (.Name "dict" p) [.Call (.Name "zip" p2) [e, e2] [] q] [] pos) (tDictZip X.K ta) := by
  refine ⟨fun pins s σ H Q I h => ?_⟩
  refine Call_ (ld_blt I hg hm PyProof.Rows.boot_dict ?_)
  refine PyProof.Rows.callWith_type1 (PyProof.Rows.args_cons ?_ na) na rfl
  refine Call_ (ld_blt I hg2 hm2 PyProof.Rows.boot_zip (PyProof.Rows.callWith_type1 (thn (ha.run q pins s σ H _ I h) fun us s1 ⟨vs, H1, I1, r1, q1⟩ => ?_) hs hpl))
  obtain ⟨a, b, ks, ys, rfl, hx, hy, hl, q1⟩ := q1
  obtain ⟨u1, u2, rfl, ra, rb⟩ := r1.two
  obtain rfl : u1 = Value.ref a := ra
  obtain rfl : u2 = Value.ref b := rb
  obtain ⟨its, rv, p1, z1⟩ := I1.list hx
  obtain ⟨its2, rv2, p2', z2⟩ := I1.list hy
  refine call_zip_2 p1.isList p2'.isList fun h' hz hTI hTO h1 h2 hsz hk => PyProof.Rows.args_nil ?_
  have I2 : Inv X pins σ H1 { s1 with heap := h' } := I1.kept (t' := s1.toks) hk
  have D := zipApart_new (n := s1.heap.objs.size) p1.lt p2'.lt
  have e1 : its.toArray.size = ks.length := by rw [List.size_toArray, ← rv.length, List.length_map]
  have e2' : its2.toArray.size = ks.length := by rw [List.size_toArray, ← rv2.length, hl]
  have hn : min its.toArray.size its2.toArray.size = ks.length := by rw [e1, e2', Nat.min_self]
  have kz : ks.length ≤ sizeLine := by rw [List.length_map] at z1; exact z1
  refine call_dict_pairs (knd := mixKind X.prog X.w) (kvs := ks.zip its2) (s := { s1 with heap := h' }) (PairArg.zip _ _ _ _ _ a b D its.toArray its2.toArray) (I2.ok.hd hc)
    ⟨hz, hTI, ⟨_, _, hTO⟩, h1, h2, p1.isList.at fun o e => hk _ o e, p2'.isList.at fun o e => hk _ o e⟩ ⟨?_, fun i key v hr => ?_⟩ (by rw [hn]; exact kz) fun h2' tk hd hk2 => ?_
  · rw [hn, List.length_zip, ← rv2.length, hl, Nat.min_self]
  · obtain ⟨r1, r2⟩ := hr
    have r1 : its[i]? = some key := by simpa using r1
    have r2 : its2[i]? = some v := by simpa using r2
    obtain ⟨x, hx1, rx⟩ := vals_at rv r1
    rw [List.getElem?_map] at hx1
    cases ek : ks[i]? with
    | none => rw [ek] at hx1; cases hx1
    | some k =>
      rw [ek] at hx1
      have ex : kV k = x := Option.some.inj hx1
      subst ex
      refine ⟨k, ?_, kV_is rx⟩
      have hi : i < ks.length := (List.getElem?_eq_some_iff.mp ek).1
      have hi2 : i < its2.length := (List.getElem?_eq_some_iff.mp r2).1
      rw [List.getElem?_eq_getElem (by rw [List.length_zip]; omega), List.getElem_zip]
      rw [List.getElem?_eq_getElem hi] at ek
      rw [List.getElem?_eq_getElem hi2] at r2
      rw [Option.some.inj ek, Option.some.inj r2]
  · -- the dict stands at the heap's end; the zip's own parts are let go
    have hm' : (h'.objs.size == sysModules) = false := beq_eq_false_iff_ne.mpr (Nat.ne_of_gt I2.big)
    have old : ∀ b o, s1.heap.get? b = some o → h2'.get? b = some o := fun c o e => hk2 c o (fun hc => by
      have hlt := Heap.lt_size e
      have e' : c = s1.heap.objs.size + 4 ∨ c = s1.heap.objs.size + 3 ∨ c = s1.heap.objs.size ∨ c = s1.heap.objs.size + 1 := by simpa using hc
      rcases e' with e' | e' | e' | e'
      · rw [e'] at hlt; exact absurd hlt (Nat.not_lt_of_le (Nat.le_add_right _ _))
      · rw [e'] at hlt; exact absurd hlt (Nat.not_lt_of_le (Nat.le_add_right _ _))
      · rw [e'] at hlt; exact absurd hlt (Nat.lt_irrefl _)
      · rw [e'] at hlt; exact absurd hlt (Nat.not_lt_of_le (Nat.le_add_right _ _))) (hk c o e)
    have hle : s1.heap.objs.size ≤ h'.objs.size := by rw [hsz]; exact Nat.le_add_right _ _
    have hlen : (mergeK [] (ks.zip ys)).length ≤ sizeLine := by
      refine Nat.le_trans (length_mergeK _ _) ?_
      rw [List.length_nil, Nat.zero_add, List.length_zip]
      exact Nat.le_trans (Nat.min_le_left _ _) kz
    exact ⟨.ref h'.objs.size, upd H1 h'.objs.size (.dK (mergeK [] (ks.zip ys))), I1.laid (t' := tk) old hle (show ObjOk X.prog X.w _ _ _ (.dK (mergeK [] (ks.zip ys))) from ⟨hlen, hm', _, KV.merge (kv_zip rv2 hl) .nil, hd⟩), rfl, q1 _ (I1.hok.fresh hle)⟩
/-! ### len(x) of an own instance -/
def rLenOwn (C : Addr) (sp : Sp) : List V → Hp → VK → Prop := fun xs H Q => ∃ (a dx : Addr) (fs : List (Str × V)), xs = [.ref a] ∧ H a = some (.ins C dx fs) ∧ sp [.ref a] H (fun z H' => ∃ i : Int, z = .int i ∧ 0 ≤ i ∧ i < 2 ^ 63 ∧ Q (.int i) H') E0
theorem call_lenOwn {C g : Addr} {k : Nat} {sp : Sp} (M : Meth X.K C "__len__" g) (F : Fn X.prog X.w X.K X.mg X.base k g sp) (hr : Room (k + 1) X.A) : CallR X (.builtin "len") (rLenOwn C sp) := by
  intro pins s σ H xs us Q I r h
  obtain ⟨a, dx, fs, rfl, ea, q⟩ := h
  obtain ⟨u, rfl, ru⟩ := r.one
  obtain rfl : u = Value.ref a := ru
  obtain ⟨mA, O, _, _, _, _⟩ := ins_get I.hok ea
  obtain ⟨od, J, _⟩ := O.look
  obtain ⟨m, hF⟩ := I.fr
  have hl : ([Value.ref a] ++ ([] : List Value)).length = F.ps.length := by
    rw [← F.ok.len _ _ _ _ q]
    rfl
  refine PySem.W.len_K hF I.ok.mod.kin J M.at_ M.fn (wpAny_call (codeAny_mono (F.ok.run X.A.in1 X.stack s H ⟨[.ref a], []⟩ [.ref a] [.ref a] _ E0 hr.in1 I.env0.in1 (F.b s [.ref a] I.kIn hl) (.cons rfl .nil) q) fun r s' hq => ?_))
  cases r with
  | error er => exact False.elim hq
  | ok fl =>
    cases fl with
    | ret u =>
      obtain ⟨z, H', I3, rz, i, ei, h0, h1, q3⟩ := I.after hq
      subst ei
      obtain ⟨t, e⟩ := (show ∃ t, u = Value.int i t from rz)
      subst e
      exact ⟨⟨h0, h1⟩, .int i, H', I3.tok _, ⟨_, rfl⟩, q3⟩
    | next => exact False.elim hq
    | brk => exact False.elim hq
    | cont => exact False.elim hq
end
end FL
/-! Numbers: the defs of freelots.numbers. -/
set_option Elab.async false
set_option linter.all false
set_option maxRecDepth 100000
set_option maxHeartbeats 4000000
namespace FL
open PySem PySem.Spec PyProof.Rows L2
/-- a list or a tuple -/
def IsSeq (H : Hp) (x : V) : Prop := ∃ p, x = .ref p ∧ ((∃ xs, H p = some (.lst xs)) ∨ ∃ xs, H p = some (.tup xs))
section
variable (P : Program) (w : World) {K : PySem.W.Frag} {mg : Str → Option Value} (base : Heap) {a : At}
def sp_is_list : Sp := fun vs H Q _ => ∃ x, vs = [x] ∧ IsSeq H x ∧ ∀ H', Same H H' → Q (.bl true) H'
theorem ok_is_list (T : Tx K mg a) : Fn P w K mg base 1 a.is_list sp_is_list := by
  refine fn_d T.F_is_list sc_is_list (fun _ _ _ _ _ _ us hl => match us, hl with | [_], _ => rfl) (fun vs H Q E h => ?_) fun cdv A outer s H vs Q E hr h => ?_
  · obtain ⟨x, rfl, _⟩ := h
    rfl
  · obtain ⟨x, rfl, ⟨p, rfl, hp⟩, q⟩ := h
    refine ⟨_, pss_one (ps_ret (pe_callB call_isiT (by rfl) T.b_isinstance (by decide +kernel) (pa_cons (pv 0) (pa_cons (pe_tup (pa_cons (pe_bltn (v := .ty "list") (by rfl) T.b_list (by decide +kernel) rfl) (pa_cons (pe_bltn (v := .ty "tuple") (by rfl) T.b_tuple (by decide +kernel) rfl) pa_nil))) pa_nil)))), ?_⟩
    refine ⟨.ref p, rfl, (by show 2 ≤ sizeLine; decide), fun t nt => ?_⟩
    rcases hp with ⟨xs, hp⟩ | ⟨xs, hp⟩
    · exact ⟨_, t, _, _, _, true, rfl, upd_same, .cons (.ty _) (.cons (.ty _) .nil), .base (.lst (same_upd nt _ _ hp)), kitAny_cons (kit_ty (b := "list") (r := true) (by decide +kernel)) (fun z => by cases z) (fun _ => rfl), q _ (same_upd nt)⟩
    · exact ⟨_, t, _, _, _, true, rfl, upd_same, .cons (.ty _) (.cons (.ty _) .nil), .base (.tup (same_upd nt _ _ hp)), kitAny_cons (kit_ty (b := "list") (r := false) (by decide +kernel)) (fun _ => kitAny_cons (kit_ty (b := "tuple") (r := true) (by decide +kernel)) (fun z => by cases z) (fun _ => rfl)) (fun z => by cases z), q _ (same_upd nt)⟩
def sp_is_integer : Sp := fun vs H Q _ => ∃ i : Int, vs = [.int i] ∧ Q (.bl true) H
theorem ok_is_integer (T : Tx K mg a) : Fn P w K mg base 1 a.is_integer sp_is_integer := by
  refine fn_d T.F_is_integer sc_is_integer (fun _ _ _ _ _ _ us hl => match us, hl with | [_], _ => rfl) (fun vs H Q E h => ?_) fun cdv A outer s H vs Q E hr h => ?_
  · obtain ⟨i, rfl, _⟩ := h
    rfl
  · obtain ⟨i, rfl, q⟩ := h
    refine ⟨_, pss_one (ps_ret (pe_and (pe_callB call_isi (by rfl) T.b_isinstance (by decide +kernel) (pa_cons (pv 0) (pa_cons (pe_bltn (v := .ty "int") (by rfl) T.b_int (by decide +kernel) rfl) pa_nil))) (pe_one (pe_not (pe_callB call_isi (by rfl) T.b_isinstance (by decide +kernel) (pa_cons (pv 0) (pa_cons (pe_bltn (v := .ty "bool") (by rfl) T.b_bool (by decide +kernel) rfl) pa_nil))))))), ?_⟩
    refine ⟨.int i, rfl, .int i, .ty "int", _, _, true, rfl, .ty _, .base (.int _), kit_ty (by decide +kernel), true, rfl, iteT ?_⟩
    exact ⟨.int i, rfl, .int i, .ty "bool", _, _, false, rfl, .ty _, .base (.int _), kit_ty (by decide +kernel), false, rfl, q⟩
def sp_is_below : Sp := fun vs H Q _ => ∃ i j : Int, vs = [.int i, .int j] ∧ Q (.bl (decide (0 ≤ i ∧ i < j))) H
theorem ok_is_below (T : Tx K mg a) : Fn P w K mg base 2 a.is_below sp_is_below := by
  refine fn_d T.F_is_below sc_is_below (fun _ _ _ _ _ _ us hl => match us, hl with | [_, _], _ => rfl) (fun vs H Q E h => ?_) fun cdv A outer s H vs Q E hr h => ?_
  · obtain ⟨i, j, rfl, _⟩ := h
    rfl
  · obtain ⟨i, j, rfl, q⟩ := h
    refine ⟨_, pss_one (ps_ret (pe_and (pe_call (ok_is_integer P w base T).ok (hr.mono (by decide)) (by rfl) T.g_is_integer (ok_is_integer P w base T).kp (ok_is_integer P w base T).b .nil pass0 (pa_cons (pv 0) pa_nil)) (pe_one (pe_chain op_le op_lt pe_int (pv 0) (pv 1))))), ?_⟩
    refine ⟨.int i, rfl, i, rfl, true, rfl, iteT ?_⟩
    refine ⟨.int i, rfl, 0, i, rfl, rfl, _, rfl, ?_⟩
    by_cases h0 : (0 : Int) ≤ i
    · rw [if_pos (decide_eq_true h0)]
      refine ⟨.int j, rfl, i, j, rfl, rfl, ?_⟩
      have e : decide (i < j) = decide (0 ≤ i ∧ i < j) := by simp [h0]
      show Q (.bl (decide (i < j))) H
      rw [e]
      exact q
    · rw [if_neg (by simp [h0])]
      have e : false = decide (0 ≤ i ∧ i < j) := by simp [h0]
      show Q (.bl false) H
      rw [e]
      exact q
/-! ### greatest_divisor, leaned -/
def sp_gcd : Sp := fun vs H Q _ => ∃ i j : Nat, vs = [.int (i : Int), .int (j : Int)] ∧ Q (.int (Nat.gcd i j : Nat)) H
theorem ok_greatest_divisor (T : Tx K mg a) : Fn P w K mg base 1 a.greatest_divisor sp_gcd := by
  refine fn_d T.F_greatest_divisor sc_greatest_divisor (fun _ _ _ _ _ _ us hl => match us, hl with | [_, _], _ => rfl) (fun vs H Q E h => ?_) fun cdv A outer s H vs Q E hr h => ?_
  · obtain ⟨i, j, rfl, _⟩ := h
    rfl
  · obtain ⟨i, j, rfl, q⟩ := h
    refine ⟨_, pss_cons (ps_while PassesOwn.never (pt_cmpR op_ne (pv 1) pe_int (nomark _)) (pss_one (ps_par (i := 0) (j := 1) rfl sc_greatest_divisor.nd rfl rfl (by decide) rfl rfl (pa_cons (pv 1) (pa_cons (pe_op op_mod (pv 0) (pv 1)) pa_nil)) (by rfl))))
        (pss_one (ps_ret (pv 0))), ?_⟩
    refine ⟨fun m σ H' => H' = H ∧ ∃ x y : Nat, m = y ∧ σ = [some (.int (x : Int)), some (.int (y : Int))] ∧ Nat.gcd x y = Nat.gcd i j, ⟨j, rfl, i, j, rfl, rfl, rfl⟩, ?_⟩
    rintro m σ H' ⟨rfl, x, y, rfl, rfl, hg⟩
    refine ⟨.int (m : Int), rfl, rfl, _, rfl, ?_⟩
    by_cases hy : m = 0
    · subst hy
      refine itF (by simp) ⟨.int (x : Int), rfl, ?_⟩
      have e : x = Nat.gcd i j := by rw [← hg, Nat.gcd_zero_right]
      show Q (.int (x : Int)) H'
      rw [e]
      exact q
    · have hne : ¬ (V.int (m : Int) = V.int 0) := fun e => hy (by have := V.int.inj e; omega)
      refine itT (by simp [hne]) ⟨fun σ' H2 => H2 = H' ∧ σ' = [some (.int (m : Int)), some (.int ((x % m : Nat) : Int))], fun σ' H2 h => ?_, ?_⟩
      · obtain ⟨rfl, rfl⟩ := h
        exact ⟨x % m, Nat.mod_lt _ (by omega), rfl, m, x % m, rfl, rfl, by rw [← hg, Nat.gcd_comm x m, Nat.gcd_rec m x, Nat.gcd_comm]⟩
      · exact ⟨.int (m : Int), rfl, .int (x : Int), rfl, .int (m : Int), rfl, (x : Int), (m : Int), rfl, rfl, (by omega), _, _, rfl, rfl, by rw [Int.natCast_emod]; rfl⟩
def sp_leaned (K : PySem.W.Frag) : Sp := fun vs H Q _ => ∃ (p : Addr) (ns : List Int) (f : Int), vs = [.ref p, .int f] ∧ SqL K H p (ns.map V.int) ∧ 0 ≤ f ∧ ns.length ≤ 1000 ∧ (∀ x, x ∈ ns → x.natAbs < 2 ^ 9000) ∧
  ∀ H' q, Same H H' → H q = none → H' q = some (.lst ((leanL ns f).map V.int)) → Q (.ref q) H'
theorem int_at {ns : List Int} {i : Nat} {x : V} (h : (ns.map V.int)[i]? = some x) : ∃ n, ns[i]? = some n ∧ x = .int n := by
  rw [List.getElem?_map] at h
  cases e : ns[i]? with
  | none => rw [e] at h; cases h
  | some n => rw [e] at h; exact ⟨n, rfl, (Option.some.inj h).symm⟩
theorem int_fm (ns : List Int) (g : Int → V) : (List.range (ns.map V.int).length).filterMap (fun i => ns[i]?.bind fun n => some (g n)) = ns.map g := by
  rw [List.length_map, range_fm ns (fun n => some (g n)), fm_some]
set_option maxRecDepth 1000000 in
theorem ok_leaned (T : Tx K mg a) : Fn P w K mg base 2 a.leaned (sp_leaned K) := by
  refine fn_d T.F_leaned sc_leaned (fun _ _ _ _ _ _ us hl => match us, hl with | [_, _], _ => rfl) (fun vs H Q E h => ?_) fun cdv A outer s H vs Q E hr h => ?_
  · obtain ⟨p, ns, f, rfl, _⟩ := h
    rfl
  · obtain ⟨p, ns, f, rfl, hp, hf, hl, hb, q⟩ := h
    refine ⟨_, pss_cons (ps_if (pt_cmpR op_gt (pv 1) pe_int (nomark _)) (pss_one (ps_ret (pe_lc (own := [("number", 3)]) rfl sc_leaned.nd (pi_list (pv 0)) (blkOk_by (N := ["numbers", "field", "divisor", "number"]) (sc := defScope s_leaned) (by decide +kernel)) (fun _ _ _ _ _ => (pg_name (i := 3) sc_leaned.nd rfl (by first | exact Or.inl rfl | exact Or.inr rfl))) (fun _ _ _ _ _ => pts_nil) (fun _ _ _ _ _ => (pe_op op_mod (pv 3) (pv 1)))))) pss_nil)
        (pss_cons (ps_set (i := 2) sc_leaned.nd rfl (by first | exact Or.inl rfl | exact Or.inr rfl) pe_int)
        (pss_cons (ps_for PassesOwn.never rfl (pi_list (pv 0)) (pg_name (i := 3) sc_leaned.nd rfl (by first | exact Or.inl rfl | exact Or.inr rfl)) (pss_one (ps_set (i := 2) sc_leaned.nd rfl (by first | exact Or.inl rfl | exact Or.inr rfl) (pe_call (ok_greatest_divisor P w base T).ok (hr.mono (by decide)) (by rfl) T.g_greatest_divisor (ok_greatest_divisor P w base T).kp (ok_greatest_divisor P w base T).b .nil pass0 (pa_cons (pv 2) (pa_cons (pe_callB call_abs (by rfl) T.b_abs (by decide +kernel) (pa_cons (pv 3) pa_nil)) pa_nil))))))
        (pss_one (ps_ret (pe_ifExp (pt_cmpR op_gt (pv 2) pe_int (nomark _)) (pe_lc (own := [("number", 3)]) rfl sc_leaned.nd (pi_list (pv 0)) (blkOk_by (N := ["numbers", "field", "divisor", "number"]) (sc := defScope s_leaned) (by decide +kernel)) (fun _ _ _ _ _ => (pg_name (i := 3) sc_leaned.nd rfl (by first | exact Or.inl rfl | exact Or.inr rfl))) (fun _ _ _ _ _ => pts_nil) (fun _ _ _ _ _ => (pe_op op_fdivW (pv 3) (pv 2)))) (pe_callTy call_list_of (by rfl) T.b_list (by decide +kernel) (pa_cons (pv 0) pa_nil))))))), ?_⟩
    refine ⟨.int f, rfl, f, 0, rfl, rfl, _, rfl, ?_⟩
    by_cases hp0 : (0 : Int) < f
    · refine itT (decide_eq_true hp0) ?_
      refine ⟨.ref p, rfl, p, rfl, ⟨_, hp⟩, fun D hD => ?_⟩
      refine lc_w walk_list (fun i => ns[i]?.bind fun n => some (.int (n % f))) hD (by rw [List.length_map]; omega) (fun H1 s1 => s1.seq hp) (fun i x H1 H2 hi s1 hy take skip => ?_) fun H1 s1 h1 => ?_
      · obtain ⟨rfl, hx⟩ := hy
        obtain ⟨n, hn, rfl⟩ := int_at hx
        refine ⟨rfl, .int n, rfl, .int f, rfl, n, f, rfl, rfl, hp0, take _ _ ?_ (Same.refl _)⟩
        rw [hn]
        rfl
      · rw [int_fm ns fun n => V.int (n % f)] at h1
        refine q H1 D s1 hD ?_
        have ef : leanF ns f = fun x => x % f := by funext x; exact if_pos hp0
        rw [h1, leanL, ef, List.map_map]
        rfl
    · refine itF (decide_eq_false hp0) ?_
      have hf0 : f = 0 := by omega
      subst hf0
      -- the divisor
      refine ⟨.ref p, rfl, p, rfl, ⟨_, hp⟩, for_it walk_list (fun i σ H' => H' = H ∧ ∃ y3, σ = [some (.ref p), some (.int 0), some (.int (((ns.take i).foldl (fun d x => Nat.gcd d x.natAbs) 0 : Nat) : Int)), y3]) ⟨rfl, none, rfl⟩ (fun i σ H' _ hi => by rw [hi.1]; exact hp) (fun i x σ H1 H2 hi hP hy => ?_) fun σ H' hP => ?_⟩
      · obtain ⟨rfl, y3, rfl⟩ := hP
        obtain ⟨rfl, hx⟩ := hy
        obtain ⟨n, hn, rfl⟩ := int_at hx
        refine ⟨_, rfl, .int n, rfl, n, rfl, (ns.take i).foldl (fun d x => Nat.gcd d x.natAbs) 0, n.natAbs, ?_, rfl, some (.int n), ?_⟩
        · have e : (if n < 0 then -n else n) = (n.natAbs : Int) := by
            by_cases h : n < 0
            · rw [if_pos h]; omega
            · rw [if_neg h]; omega
          show [_, V.int (if n < 0 then -n else n)] = _
          rw [e]
        · rw [List.take_add_one, hn, List.foldl_append]
          rfl
      · obtain ⟨rfl, y3, rfl⟩ := hP
        have eg : ((ns.take (ns.map V.int).length).foldl (fun d x => Nat.gcd d x.natAbs) 0) = gcdL ns := by
          rw [List.length_map, List.take_length]
          rfl
        rw [eg]
        refine ⟨_, rfl, _, 1, rfl, rfl, _, rfl, ?_⟩
        by_cases h1 : 1 < gcdL ns
        · have h1' : (1 : Int) < (gcdL ns : Int) := by omega
          refine itT (decide_eq_true h1') ?_
          refine ⟨.ref p, rfl, p, rfl, ⟨_, hp⟩, fun D hD => ?_⟩
          refine lc_w walk_list (fun i => ns[i]?.bind fun n => some (.int (n / (gcdL ns : Int)))) hD (by rw [List.length_map]; omega) (fun H1 s1 => s1.seq hp) (fun i x H1 H2 hi s1 hy take skip => ?_) fun H1 s1 h2 => ?_
          · obtain ⟨rfl, hx⟩ := hy
            obtain ⟨n, hn, rfl⟩ := int_at hx
            refine ⟨rfl, .int n, rfl, .int (gcdL ns : Int), rfl, n, (gcdL ns : Int), rfl, rfl, wide_div (b := 9000) (by omega) (by rw [Int.natAbs_natCast]; exact gcdL_lt hb h1) (by decide) (Nat.le_refl _), take _ _ ?_ (Same.refl _)⟩
            rw [hn]
            rfl
          · rw [int_fm ns fun n => V.int (n / (gcdL ns : Int))] at h2
            refine q H1 D s1 hD ?_
            have ef : leanF ns 0 = fun x => x / (gcdL ns : Int) := by funext x; exact (if_neg (by decide)).trans (if_pos h1)
            rw [h2, leanL, ef, List.map_map]
            rfl
        · refine itF (decide_eq_false (by omega)) ?_
          refine ⟨.ref p, rfl, p, _, rfl, .inl hp, fun l hl' => q _ l (same_upd hl') hl' ?_⟩
          have ef : leanF ns 0 = fun x => x := by funext x; exact (if_neg (by decide)).trans (if_neg h1)
          rw [upd_same, leanL, ef, List.map_id']
end
end FL
/-! Rows: fields, rows, the base. -/
set_option Elab.async false
set_option linter.all false
set_option maxRecDepth 1000000
set_option maxHeartbeats 4000000
namespace FL
open PySem PySem.Spec PyProof.Rows L2
/-- a list of indexes -/
abbrev ixs (l : List Nat) : List V := l.map fun (k : Nat) => V.int (k : Int)
abbrev tabF (p : Int) (w : Nat) (ro : Addr) : List (Str × V) := [("own_field", .int p), ("own_width", .int (w : Int)), ("own_rows", .ref ro)]
/-- a table stands at t -/
structure TabAt (K : PySem.W.Frag) (C : Addr) (H : Hp) (t : Addr) (T : Tab) : Prop where
  ob : ∃ (dx ro : Addr) (ras : List Addr), H t = some (.ins C dx (tabF T.p T.w ro)) ∧ SqT K H ro (ras.map V.ref) ∧ ras.length = T.rows.length ∧ ∀ (i : Nat) r, T.rows[i]? = some r → ∃ ra : Addr, ras[i]? = some ra ∧ SqT K H ra (r.map V.int)
theorem TabAt.same {K : PySem.W.Frag} {C : Addr} {H H' : Hp} {t : Addr} {T : Tab} (h : TabAt K C H t T) (s : Same H H') : TabAt K C H' t T := by
  obtain ⟨dx, ro, ras, h1, h2, h3, h4⟩ := h
  exact ⟨dx, ro, ras, s _ _ h1, same_tup s h2, h3, fun i r hr => let ⟨ra, a, b⟩ := h4 i r hr; ⟨ra, a, same_tup s b⟩⟩
section
variable (P : Program) (w : World) {K : PySem.W.Frag} {mg : Str → Option Value} (base : Heap) {a : At}
def sp_field (K : PySem.W.Frag) (a : At) : Sp := fun vs H Q _ => ∃ t T, vs = [.ref t] ∧ TabAt K a.Rows H t T ∧ Q (.int T.p) H
theorem ok_Rows_field (T : Tx K mg a) : Fn P w K mg base 1 a.Rows_field (sp_field K a) := by
  refine fn_d T.F_Rows_field sc_Rows_field (fun _ _ _ _ _ _ us hl => match us, hl with | [_], _ => rfl) (fun vs H Q E h => ?_) fun cdv A outer s H vs Q E hr h => ?_
  · obtain ⟨t, T, rfl, _⟩ := h
    rfl
  · obtain ⟨t, Tb, rfl, ⟨dx, ro, ras, h1, _⟩, q⟩ := h
    refine ⟨_, pss_one (ps_ret (pe_fld (pv 0) rfl)), ?_⟩
    exact ⟨_, rfl, t, _, dx, _, _, rfl, h1, T.c_Rows, T.n_Rows_own_field, rfl, q⟩
def sp_len (K : PySem.W.Frag) (a : At) : Sp := fun vs H Q _ => ∃ t T, vs = [.ref t] ∧ TabAt K a.Rows H t T ∧ Q (.int (T.rows.length : Nat)) H
theorem ok_Rows_len (T : Tx K mg a) : Fn P w K mg base 1 a.Rows_len (sp_len K a) := by
  refine fn_d T.F_Rows_len sc_Rows_len (fun _ _ _ _ _ _ us hl => match us, hl with | [_], _ => rfl) (fun vs H Q E h => ?_) fun cdv A outer s H vs Q E hr h => ?_
  · obtain ⟨t, T, rfl, _⟩ := h
    rfl
  · obtain ⟨t, Tb, rfl, ⟨dx, ro, ras, h1, h2, h3, _⟩, q⟩ := h
    refine ⟨_, pss_one (ps_ret (pe_callB call_len_seq (by rfl) T.b_len PySem.boot_len (pa_cons (pe_fld (pv 0) rfl) pa_nil))), ?_⟩
    refine ⟨_, rfl, t, _, dx, _, _, rfl, h1, T.c_Rows, T.n_Rows_own_rows, rfl, ro, ras.map V.ref, rfl, .inr h2, ?_⟩
    rw [List.length_map, h3]
    exact q
def sp_row_at (K : PySem.W.Frag) (a : At) : Sp := fun vs H Q _ => ∃ t T, ∃ (k : Nat) (r : List Int), vs = [.ref t, .int (k : Int)] ∧ TabAt K a.Rows H t T ∧ T.rows[k]? = some r ∧ ∀ ra, SqT K H ra (r.map V.int) → Q (.ref ra) H
theorem ok_Rows_row_at (T : Tx K mg a) : Fn P w K mg base 3 a.Rows_row_at (sp_row_at K a) := by
  refine fn_d T.F_Rows_row_at sc_Rows_row_at (fun _ _ _ _ _ _ us hl => match us, hl with | [_, _], _ => rfl) (fun vs H Q E h => ?_) fun cdv A outer s H vs Q E hr h => ?_
  · obtain ⟨t, T, k, r, rfl, _⟩ := h
    rfl
  · obtain ⟨t, Tb, k, r, rfl, ⟨dx, ro, ras, h1, h2, h3, h4⟩, hk, q⟩ := h
    refine ⟨_, pss_cons (ps_if (pt_not (pt_val (pe_call (ok_is_below P w base T).ok (hr.mono (by decide)) (by rfl) T.g_is_below (ok_is_below P w base T).kp (ok_is_below P w base T).b .nil pass0 (pa_cons (pv 1) (pa_cons (pe_callB call_len_seq (by rfl) T.b_len PySem.boot_len (pa_cons (pe_fld (pv 0) rfl) pa_nil)) pa_nil))))) (pss_one ps_never) pss_nil)
        (pss_one (ps_ret (pe_ix ix_tup (pe_fld (pv 0) rfl) (pv 1) (fun _ _ => rfl)))), ?_⟩
    have hlt : k < Tb.rows.length := (List.getElem?_eq_some_iff.mp hk).1
    obtain ⟨ra, e1, e2⟩ := h4 k r hk
    refine ⟨_, rfl, _, rfl, t, _, dx, _, _, rfl, h1, T.c_Rows, T.n_Rows_own_rows, rfl, ro, ras.map V.ref, rfl, .inr h2, (k : Int), ((ras.map V.ref).length : Int), rfl, _, rfl, ?_⟩
    refine itF ?_ ?_
    · rw [List.length_map, h3]
      simp
      omega
    · refine ⟨_, rfl, t, _, dx, _, _, rfl, h1, T.c_Rows, T.n_Rows_own_rows, rfl, _, rfl, ro, _, _, _, rfl, rfl, h2, atI_nat (j := k) (v := .ref ra) ?_, q ra e2⟩
      rw [List.getElem?_map, e1]
      rfl
/-! ### Base -/
/-- a dict of whole numbers by indexes -/
def mkd (ks : List Nat) (c : Nat → Int) : List (Key × V) := ks.map fun (k : Nat) => ((Sum.inl (k : Int) : Key), V.int (c k))
/-- a step of a base stands at q -/
def StepAt (H : Hp) (q : Addr) (s : CStep) : Prop := ∃ kl kd, H q = some (.tup [.int (s.lead : Int), .ref kl, .ref kd]) ∧ H kl = some (.lst (s.known.map V.int)) ∧ H kd = some (.dK (mkd s.ks s.c))
theorem StepAt.same {H H' : Hp} {q : Addr} {s : CStep} (h : StepAt H q s) (e : Same H H') : StepAt H' q s := by
  obtain ⟨kl, kd, h1, h2, h3⟩ := h
  exact ⟨kl, kd, e _ _ h1, e _ _ h2, e _ _ h3⟩
abbrev baseF (t l : Addr) : List (Str × V) := [("own_table", .ref t), ("steps", .ref l)]
structure BaseAt (K : PySem.W.Frag) (a : At) (H : Hp) (b t l : Addr) (T : Tab) (S : List CStep) : Prop where
  tab : TabAt K a.Rows H t T
  ob : ∃ dx, H b = some (.ins a.Base dx (baseF t l))
  st : ∃ qs : List Addr, H l = some (.lst (qs.map V.ref)) ∧ qs.length = S.length ∧ ∀ (i : Nat) s, S[i]? = some s → ∃ q, qs[i]? = some q ∧ StepAt H q s
theorem BaseAt.same {K : PySem.W.Frag} {a : At} {H H' : Hp} {b t l : Addr} {T : Tab} {S : List CStep} (h : BaseAt K a H b t l T S) (e : Same H H') : BaseAt K a H' b t l T S := by
  obtain ⟨h1, ⟨dx, h2⟩, qs, h3, h4, h5⟩ := h
  exact ⟨h1.same e, ⟨dx, e _ _ h2⟩, qs, e _ _ h3, h4, fun i s hs => let ⟨q, a, b⟩ := h5 i s hs; ⟨q, a, b.same e⟩⟩
def sp_Base (K : PySem.W.Frag) (a : At) : Sp := fun vs H Q _ => ∃ b dx t T, vs = [.ref b, .ref t] ∧ H b = some (.ins a.Base dx []) ∧ TabAt K a.Rows H t T ∧ ∀ l H', H l = none → (∀ x o, H x = some o → x ≠ b → H' x = some o) → BaseAt K a H' b t l T [] → Q .non H'
theorem ok_Base_init (T : Tx K mg a) : Fn P w K mg base 1 a.Base_init (sp_Base K a) := by
  refine fn_d T.F_Base_init sc_Base_init (fun _ _ _ _ _ _ us hl => match us, hl with | [_, _], _ => rfl) (fun vs H Q E h => ?_) fun cdv A outer s H vs Q E hr h => ?_
  · obtain ⟨b, dx, t, T, rfl, _⟩ := h
    rfl
  · obtain ⟨b, dx, t, Tb, rfl, hb, hT, q⟩ := h
    refine ⟨_, pss_cons (ps_fld (pv 0) (pv 1) rfl)
        (pss_one (ps_fld (pv 0) (pe_lst pa_nil) rfl)), ?_⟩
    refine ⟨.ref t, rfl, _, rfl, b, _, dx, _, rfl, hb, T.c_Base, T.n_Base_own_table, (by show 0 < 1000; decide), ?_⟩
    refine ⟨Nat.zero_le _, fun l hl => ?_⟩
    have nbl : b ≠ l := ne_of_none upd_same hl
    have hl0 : H l = none := by rw [upd_ne nbl.symm] at hl; exact hl
    refine ⟨_, rfl, b, _, dx, _, rfl, (by rw [upd_ne nbl, upd_same]), T.c_Base, T.n_Base_steps, (by show 1 < 1000; decide), ?_⟩
    have old : ∀ x o, H x = some o → x ≠ b → upd (upd (upd H b (.ins a.Base dx (putF "own_table" (.ref t) []))) l (.lst [])) b (.ins a.Base dx (putF "steps" (.ref l) (putF "own_table" (.ref t) []))) x = some o := fun x o e n => by
      rw [upd_ne n, upd_ne (ne_of_none e hl0), upd_ne n]
      exact e
    refine q l _ hl0 old ⟨?_, ⟨dx, upd_same⟩, [], by rw [upd_ne nbl.symm, upd_same]; rfl, rfl, fun i s h => by simp at h⟩
    obtain ⟨dt, ro, ras, h1, h2, h3, h4⟩ := hT
    have nt : ∀ x xs, SqT K H x xs → SqT K (upd (upd (upd H b (.ins a.Base dx (putF "own_table" (.ref t) []))) l (.lst [])) b (.ins a.Base dx (putF "steps" (.ref l) (putF "own_table" (.ref t) [])))) x xs := fun x xs h => by
      rcases h with (h | ⟨o, h⟩) | h
      · exact .inl (.inl (old _ _ h fun e => by rw [e, hb] at h; cases h))
      · exact .inl (.inr ⟨o, old _ _ h fun e => by rw [e, hb] at h; cases h⟩)
      · exact .inr h
    exact ⟨dt, ro, ras, old _ _ h1 (fun e => by
      rw [e, hb] at h1
      injection h1 with h1
      injection h1 with _ _ h1
      cases h1), nt _ _ h2, h3, fun i r hr => let ⟨ra, e1, e2⟩ := h4 i r hr; ⟨ra, e1, nt _ _ e2⟩⟩
end
end FL
/-! Small helpers about the layer's dicts and lists. -/
set_option Elab.async false
set_option linter.all false
set_option maxRecDepth 100000
namespace FL
open PySem PySem.Spec PyProof.Rows L2
abbrev castL (l : List Nat) : List Int := l.map fun (k : Nat) => (k : Int)
theorem ixs_cast (l : List Nat) : (castL l).map V.int = ixs l := by
  rw [List.map_map]
  rfl
theorem mkd_keys (ks : List Nat) (c : Nat → Int) : ((mkd ks c).map fun kv => kV kv.1) = (castL ks).map V.int := by
  unfold mkd castL
  rw [List.map_map, List.map_map]
  rfl
theorem cast_of {ns : List Int} (h : ∀ k, k ∈ ns → 0 ≤ k) : ns = castL (ns.map Int.toNat) := by
  unfold castL
  rw [List.map_map]
  induction ns with
  | nil => rfl
  | cons x ns ih =>
    rw [List.map_cons, ← ih fun k hk => h k (List.mem_cons_of_mem _ hk)]
    congr 1
    have := h x List.mem_cons_self
    show x = ((x.toNat : Nat) : Int)
    omega
theorem mkd_val (ks : List Nat) (c : Nat → Int) (k : Nat) : valV (mkd ks c) (Sum.inl (k : Int) : Key) = if k ∈ ks then some (.int (c k)) else none := by
  unfold valV mkd
  induction ks with
  | nil => rfl
  | cons x ks ih =>
    rw [List.map_cons, List.find?_cons]
    by_cases e : x = k
    · subst e
      rw [decide_eq_true rfl]
      simp
    · have hne : ¬ ((Sum.inl (x : Int) : Key) = Sum.inl (k : Int)) := fun q => e (by have := Sum.inl.inj q; omega)
      have e2 : decide ((Sum.inl (x : Int) : Key) = Sum.inl (k : Int)) = false := decide_eq_false hne
      have e3 : (k ∈ x :: ks) = (k ∈ ks) := by
        rw [List.mem_cons]
        exact propext ⟨fun q => q.resolve_left fun q => e q.symm, .inr⟩
      simp only [e2, e3]
      exact ih
theorem mkd_get {ks : List Nat} {c : Nat → Int} (h : ∀ k, k ∉ ks → c k = 0) (k : Nat) : (valV (mkd ks c) (Sum.inl (k : Int) : Key)).getD (.int 0) = .int (c k) := by
  rw [mkd_val]
  by_cases q : k ∈ ks
  · rw [if_pos q]; rfl
  · rw [if_neg q, h k q]; rfl
theorem merge_new : ∀ (more acc : List (Key × V)), ((acc ++ more).map (·.1)).Nodup → mergeK acc more = acc ++ more
  | [], acc, _ => by rw [List.append_nil]; rfl
  | kv :: more, acc, h => by
    have hn : valV acc kv.1 = none := by
      unfold valV
      rw [Option.map_eq_none_iff, List.find?_eq_none]
      intro x hx e
      have e : x.1 = kv.1 := of_decide_eq_true e
      rw [List.map_append, List.map_cons] at h
      exact (List.nodup_append.mp h).2.2 x.1 (List.mem_map.mpr ⟨x, hx, rfl⟩) kv.1 List.mem_cons_self e
    show mergeK (putK acc kv.1 kv.2) more = _
    rw [putK_new _ hn]
    have := merge_new more (acc ++ [(kv.1, kv.2)]) (by rw [List.append_assoc]; exact h)
    rw [this, List.append_assoc]
    rfl
theorem castk_nodup {ks : List Nat} (h : ks.Nodup) : (ks.map fun (k : Nat) => (Sum.inl (k : Int) : Key)).Nodup := by
  induction ks with
  | nil => exact List.nodup_nil
  | cons x ks ih =>
    rw [List.nodup_cons] at h
    rw [List.map_cons, List.nodup_cons]
    refine ⟨fun q => ?_, ih h.2⟩
    obtain ⟨y, hy, e⟩ := List.mem_map.mp q
    have := Sum.inl.inj e
    have e2 : y = x := by omega
    exact h.1 (e2 ▸ hy)
theorem mkd_merge {ks : List Nat} (h : ks.Nodup) (c : Nat → Int) : mergeK [] (mkd ks c) = mkd ks c := by
  rw [merge_new _ _ ?_, List.nil_append]
  rw [List.nil_append]
  unfold mkd
  rw [List.map_map]
  exact castk_nodup h
theorem mkd_zip (ks : List Nat) (f : Nat → Int) : ((ks.map fun (k : Nat) => (Sum.inl (k : Int) : Key)).zip ((ks.map f).map V.int)) = mkd ks f := by
  unfold mkd
  rw [List.map_map]
  induction ks with
  | nil => rfl
  | cons x ks ih => rw [List.map_cons, List.map_cons, List.zip_cons_cons, ih]; rfl
theorem kV_cast (ks : List Nat) : ((ks.map fun (k : Nat) => (Sum.inl (k : Int) : Key)).map kV) = ixs ks := by
  rw [List.map_map]
  rfl
theorem ix_at {l : List Nat} {i : Nat} {x : V} (h : (ixs l)[i]? = some x) : ∃ k : Nat, l[i]? = some k ∧ x = .int (k : Int) := by
  rw [List.getElem?_map] at h
  cases e : l[i]? with
  | none => rw [e] at h; cases h
  | some n => rw [e] at h; exact ⟨n, rfl, (Option.some.inj h).symm⟩
theorem ref_at {l : List Addr} {i : Nat} {x : V} (h : (l.map V.ref)[i]? = some x) : ∃ k, l[i]? = some k ∧ x = .ref k := by
  rw [List.getElem?_map] at h
  cases e : l[i]? with
  | none => rw [e] at h; cases h
  | some n => rw [e] at h; exact ⟨n, rfl, (Option.some.inj h).symm⟩
theorem at_map {α : Type} {l : List α} {i : Nat} {x : α} (f : α → V) (h : l[i]? = some x) : (l.map f)[i]? = some (f x) := by
  rw [List.getElem?_map, h]
  rfl
theorem at_nat {xs : List V} {j : Nat} {v : V} (h : xs[j]? = some v) : atI xs (j : Int) = some v := atI_nat h
/-- nodup and below n: at most n -/
theorem few {l : List Nat} {n : Nat} (h : l.Nodup) (hl : ∀ k, k ∈ l → k < n) : l.length ≤ n := by
  have := h.length_le_of_subset (l₂ := List.range n) fun k hk => List.mem_range.mpr (hl k hk)
  rwa [List.length_range] at this
theorem cut_take (xs : List V) (n : Nat) : cutV xs none (some (n : Int)) = xs.take n := by
  unfold cutV
  rw [show HT.sIx xs.length xs.length (some (n : Int)) = min n xs.length from HT.sIx_nat xs.length xs.length n, HT.sIx_none]
  rw [List.drop_zero, Nat.sub_zero]
  by_cases h : n ≤ xs.length
  · rw [Nat.min_eq_left h]
  · rw [Nat.min_eq_right (by omega), List.take_length, List.take_of_length_le (by omega)]
theorem cut_drop (xs : List V) (n : Nat) : cutV xs (some (n : Int)) none = xs.drop n := by
  unfold cutV
  rw [show HT.sIx xs.length 0 (some (n : Int)) = min n xs.length from HT.sIx_nat xs.length 0 n, HT.sIx_none]
  by_cases h : n ≤ xs.length
  · rw [Nat.min_eq_left h, List.take_of_length_le (by rw [List.length_drop]; exact Nat.le_refl _)]
  · rw [Nat.min_eq_right (by omega), List.drop_length, List.drop_eq_nil_of_le (by omega), List.take_nil]
/-! ### a dict comprehension told by the turns -/
section
variable {J : It} {n : Nat} {G : Hp → Prop} {Y : Nat → Hp → V → Hp → Prop}
def DcAt (H1 : Hp) (D : Addr) (F : Nat → Option (Key × V)) (i : Nat) (H : Hp) : Prop := Same H1 H ∧ H D = some (.dK ((List.range i).filterMap F))
theorem dc_w (w : Walk J n G Y) {g : TG} {tt : TT} {tk tv : TE} {vs : List Nat} {σ : L2.St} {H1 : Hp} {D : Addr} {Qd : Hp → Prop} (F : Nat → Option (Key × V)) (nD : H1 D = none) (hn : n ≤ 100000) (hnd : (((List.range n).filterMap F).map (·.1)).Nodup) (hG : ∀ H, Same H1 H → G H)
    (hs : ∀ i x H H', i < n → Same H1 H → Y i H x H' → (∀ k v H5, F i = some (k, v) → Same H H5 → ∃ kvs k', kV k = kV k' ∧ H5 D = some (.dK kvs) ∧ kvs.length < sizeLine ∧ DcAt H1 D F (i + 1) (upd H5 D (.dK (putK kvs k' v)))) → (∀ H3, F i = none → Same H H3 → DcAt H1 D F (i + 1) H3) →
      g x (wipe σ vs) H' fun σ2 H2 => wipe σ2 vs = wipe σ vs ∧ tt σ2 H2 fun b H3 =>
      if b = true then tk σ2 H3 fun y H4 => tv σ2 H4 fun z H5 => ∃ kvs k, y = kV k ∧ H5 D = some (.dK kvs) ∧ kvs.length < sizeLine ∧ DcAt H1 D F (i + 1) (upd H5 D (.dK (putK kvs k z))) else DcAt H1 D F (i + 1) H3)
    (hd : ∀ H, Same H1 H → H D = some (.dK ((List.range n).filterMap F)) → Qd H) :
    ∃ W : Nat → Nat → Hp → Prop, (∃ m, W 0 m (upd H1 D (.dK []))) ∧ ∀ i m H, W i m H →
      (J.stop i H ∧ Qd H) ∨ (J.go i H ∧ ∃ Nx : Hp → Prop, (∀ H', Nx H' → ∃ m', m' < m ∧ W (i + 1) m' H') ∧ ∀ x H', J.yld i H x H' → g x (wipe σ vs) H' fun σ2 H2 => wipe σ2 vs = wipe σ vs ∧ tt σ2 H2 fun b H3 =>
        if b = true then tk σ2 H3 fun y H4 => tv σ2 H4 fun z H5 => ∃ kvs k, y = kV k ∧ H5 D = some (.dK kvs) ∧ kvs.length < sizeLine ∧ Nx (upd H5 D (.dK (putK kvs k z))) else Nx H3) := by
  refine ⟨fun i m H => m = n - i ∧ i ≤ n ∧ DcAt H1 D F i H, ⟨n, by simp, Nat.zero_le _, same_upd nD, upd_same⟩, ?_⟩
  rintro i m H ⟨rfl, hi, p⟩
  by_cases hlt : i < n
  · refine .inr ⟨w.goes i H hlt (hG H p.1), DcAt H1 D F (i + 1), fun H' p' => ⟨n - (i + 1), by omega, rfl, hlt, p'⟩, fun x H' y => hs i x H H' hlt p.1 (w.yields i H x H' hlt (hG H p.1) y) (fun k v H5 hF s => ?_) fun H3 hF s => ?_⟩
    · have er : (List.range (i + 1)).filterMap F = (List.range i).filterMap F ++ [(k, v)] := by
        rw [List.range_succ, List.filterMap_append, List.filterMap_cons, hF]
        rfl
      have hv : valV ((List.range i).filterMap F) k = none := by
        have sub : ((List.range (i + 1)).filterMap F).Sublist ((List.range n).filterMap F) := List.Sublist.filterMap F (List.range_sublist.mpr (by omega))
        have nd := hnd.sublist (sub.map _)
        rw [er, List.map_append] at nd
        unfold valV
        rw [Option.map_eq_none_iff, List.find?_eq_none]
        intro z hz e
        exact (List.nodup_append.mp nd).2.2 z.1 (List.mem_map.mpr ⟨z, hz, rfl⟩) k (by simp) (of_decide_eq_true e)
      refine ⟨_, k, rfl, s _ _ p.2, ?_, same_chg (p.1.trans s) nD, ?_⟩
      · refine Nat.lt_of_le_of_lt (List.length_filterMap_le _ _) ?_
        rw [List.length_range]
        exact Nat.lt_of_lt_of_le hlt (Nat.le_trans hn (by decide))
      · rw [upd_same, putK_new _ hv, er]
    · refine ⟨p.1.trans s, ?_⟩
      rw [s _ _ p.2, List.range_succ, List.filterMap_append, List.filterMap_cons, hF, List.filterMap_nil, List.append_nil]
  · have e : i = n := by omega
    subst e
    exact .inl ⟨w.stops H (hG H p.1), hd H p.1 p.2⟩
end
/-- behind a lock -/
theorem lock_same {H H' : Hp} {d : Addr} {u : HO} {o : Obj} (h : H d = some u) (s : Same (upd H d (.frz o u)) H') : Same H (upd H' d u) := fun b x e => by
  by_cases hb : b = d
  · subst hb
    rw [h] at e
    cases e
    exact upd_same
  · rw [upd_ne hb]
    exact s _ _ (by rw [upd_ne hb]; exact e)
theorem fm_keys (Z : List Nat) (c : Nat → Int) (p : Nat → Bool) : (List.range (mkd Z c).length).filterMap (fun i => Z[i]?.bind fun k => if p k then some (((Sum.inl (k : Int) : Key), V.int (c k))) else none) = mkd (Z.filter p) c := by
  have hl : (mkd Z c).length = Z.length := by unfold mkd; rw [List.length_map]
  rw [hl, range_fm Z fun k => if p k then some (((Sum.inl (k : Int) : Key), V.int (c k))) else none, fm_filter]
  rfl
theorem mkd_at {Z : List Nat} {c : Nat → Int} {i : Nat} {k : Key} {v : V} (h : (mkd Z c)[i]? = some (k, v)) : ∃ z : Nat, Z[i]? = some z ∧ k = Sum.inl (z : Int) ∧ v = .int (c z) := by
  unfold mkd at h
  rw [List.getElem?_map] at h
  cases e : Z[i]? with
  | none => rw [e] at h; cases h
  | some z =>
    rw [e] at h
    have h := Option.some.inj h
    exact ⟨z, rfl, (congrArg Prod.fst h).symm, (congrArg Prod.snd h).symm⟩
end FL
/-! Base.left_of, relation, add; Rows.base_of. -/
set_option Elab.async false
set_option linter.all false
set_option maxRecDepth 1000000
set_option maxHeartbeats 8000000
namespace FL
open PySem PySem.Spec PyProof.Rows L2
section
variable (P : Program) (w : World) {K : PySem.W.Frag} {mg : Str → Option Value} (base : Heap) {a : At}
/-- what a base asks of a row -/
structure BasePre (K : PySem.W.Frag) (a : At) (H : Hp) (b t l : Addr) (T : Tab) (lot : List Nat) (S : List CStep) (x : Nat) : Prop where
  at_ : BaseAt K a H b t l T S
  ok : TabOk T
  el : CElim T lot S
  five : S.length ≤ 5
  lt : ∀ k, k ∈ lot → k < T.n
  xn : x < T.n
  xl : x ∉ lot
def sp_left_of (K : PySem.W.Frag) (a : At) : Sp := fun vs H Q _ => ∃ (b t l : Addr) (T : Tab) (lot : List Nat) (S : List CStep) (x : Nat), vs = [.ref b, .int (x : Int)] ∧ BasePre K a H b t l T lot S x ∧
  ∀ H' q nl pd v ks c, Same H H' → H' q = some (.tup [.ref nl, .ref pd]) → H nl = none → H pd = none → H' nl = some (.lst (v.map V.int)) → H' pd = some (.dK (mkd ks c)) → CRed T lot x S v ks c → Q (.ref q) H'
theorem ok_Base_left_of (T : Tx K mg a) : Fn P w K mg base 4 a.Base_left_of (sp_left_of K a) := by
  refine fn_d T.F_Base_left_of sc_Base_left_of (fun _ _ _ _ _ _ us hl => match us, hl with | [_, _], _ => rfl) (fun vs H Q E h => ?_) fun cdv A outer s H vs Q E hr h => ?_
  · obtain ⟨b, t, l, T, lot, S, x, rfl, _⟩ := h
    rfl
  · obtain ⟨b, t, l, Tb, lot, S, x, rfl, B, q⟩ := h
    have hu := hu_of hr
    obtain ⟨hB, O, el, five, lt, xn, xl⟩ := B
    obtain ⟨hT, ⟨dx, hb⟩, qs, hl, hqs, hst⟩ := id hB
    refine ⟨_, pss_cons (ps_set (i := 2) sc_Base_left_of.nd rfl (by first | exact Or.inl rfl | exact Or.inr rfl) (pe_prop (pe_fld (pv 0) rfl) T.c_Rows T.P_field (ok_Rows_field P w base T).ok (hr.mono (by decide)) (ok_Rows_field P w base T).b .nil pass0 rfl))
        (pss_cons (ps_asg (pe_tup (pa_cons (pe_callTy call_list_of (by rfl) T.b_list (by decide +kernel) (pa_cons (pe_meth (pe_fld (pv 0) rfl) T.c_Rows T.M_Rows_row_at (ok_Rows_row_at P w base T).ok (hr.mono (by decide)) (ok_Rows_row_at P w base T).b .nil pass0 (pa_cons (pv 1) pa_nil)) pa_nil)) (pa_cons (pe_disp (pps_cons (pv 1) pe_int pps_nil) (by rfl) (by rfl) (fun z => by cases z) (by decide)) pa_nil))) (pg_tup rfl (pgs_cons (pg_name (i := 3) sc_Base_left_of.nd rfl (by first | exact Or.inl rfl | exact Or.inr rfl)) (pgs_cons (pg_name (i := 4) sc_Base_left_of.nd rfl (by first | exact Or.inl rfl | exact Or.inr rfl)) pgs_nil))))
        (pss_cons (ps_for PassesOwn.never rfl (pi_list (pe_fld (pv 0) rfl)) (pg_tup rfl (pgs_cons (pg_name (i := 5) sc_Base_left_of.nd rfl (by first | exact Or.inl rfl | exact Or.inr rfl)) (pgs_cons (pg_name (i := 6) sc_Base_left_of.nd rfl (by first | exact Or.inl rfl | exact Or.inr rfl)) (pgs_cons (pg_name (i := 7) sc_Base_left_of.nd rfl (by first | exact Or.inl rfl | exact Or.inr rfl)) pgs_nil)))) (pss_one (ps_if (pt_cmpR op_ne (pe_ix ix_list (pv 3) (pv 5) (fun _ _ => rfl)) pe_int (nomark _)) (pss_cons (ps_asg (pe_tup (pa_cons (pe_ix ix_list (pv 6) (pv 5) (fun _ _ => rfl)) (pa_cons (pe_ix ix_list (pv 3) (pv 5) (fun _ _ => rfl)) pa_nil))) (pg_tup rfl (pgs_cons (pg_name (i := 8) sc_Base_left_of.nd rfl (by first | exact Or.inl rfl | exact Or.inr rfl)) (pgs_cons (pg_name (i := 9) sc_Base_left_of.nd rfl (by first | exact Or.inl rfl | exact Or.inr rfl)) pgs_nil))))
        (pss_cons (ps_set (i := 10) sc_Base_left_of.nd rfl (by first | exact Or.inl rfl | exact Or.inr rfl) (pe_callB (cr_sortedSet rfl) (by rfl) T.b_sorted (by decide +kernel) (pa_cons (pe_callTy (cr_setOf rfl) (by rfl) T.b_set (by decide +kernel) (pa_cons (pe_lst (pa_starD (pv 4) (pa_starD (pv 7) pa_nil))) pa_nil)) pa_nil)))
        (pss_cons (ps_setLc (i := 3) (own := [("x", 13), ("y", 14)]) rfl sc_Base_left_of.nd rfl rfl (sw_true rfl rfl rfl (by decide +kernel)) (pi_zip (by rfl) T.b_zip (pa_cons (pv 3) (pa_cons (pv 6) pa_nil))) (blkOk_by (N := ["self", "row", "field", "numbers", "parts", "lead", "known", "makers", "up", "down", "keys", "counts", "whole", "x", "y", "key"]) (sc := defScope s_Base_left_of) (by decide +kernel)) (fun _ _ _ _ _ => (pg_two (K := K) 13 14 sc_Base_left_of.nd)) (fun _ _ _ _ _ => pts_nil) (fun _ _ _ _ _ => (pe_op op_sub (pe_op op_mulW (pv 8) (pv 13)) (pe_op op_mulW (pv 9) (pv 14)))))
        (pss_cons (ps_setLc (i := 11) (own := [("key", 15)]) rfl sc_Base_left_of.nd rfl rfl (sw_true rfl rfl rfl (by decide +kernel)) (pi_list (pv 10)) (blkOk_by (N := ["self", "row", "field", "numbers", "parts", "lead", "known", "makers", "up", "down", "keys", "counts", "whole", "x", "y", "key"]) (sc := defScope s_Base_left_of) (by decide +kernel)) (fun _ _ _ _ _ => (pg_name (i := 15) sc_Base_left_of.nd rfl (by first | exact Or.inl rfl | exact Or.inr rfl))) (fun _ _ _ _ _ => pts_nil) (fun _ _ _ _ _ => (pe_op op_sub (pe_op op_mulW (pv 8) (pe_dget2 hu (pv 4) (pv 15) pe_int (by exact ⟨rfl, rfl, rfl, rfl⟩))) (pe_op op_mulW (pv 9) (pe_dget2 hu (pv 7) (pv 15) pe_int (by exact ⟨rfl, rfl, rfl, rfl⟩))))))
        (pss_cons (ps_set (i := 12) sc_Base_left_of.nd rfl (by first | exact Or.inl rfl | exact Or.inr rfl) (pe_call (ok_leaned P w base T).ok (hr.mono (by decide)) (by rfl) T.g_leaned (ok_leaned P w base T).kp (ok_leaned P w base T).b .nil pass0 (pa_cons (pe_lst (StX.pa_star (pv 3) (StX.pa_star (pv 11) pa_nil))) (pa_cons (pv 2) pa_nil))))
        (pss_one (ps_asg (pe_tup (pa_cons (pe_slice sl_list (pv 12) po_none (po_some (pe_callB call_len_seq (by rfl) T.b_len PySem.boot_len (pa_cons (pv 3) pa_nil)))) (pa_cons (pe_dictZip (by rfl) T.b_dict (by rfl) T.b_zip (pa_cons (pv 10) (pa_cons (pe_slice sl_list (pv 12) (po_some (pe_callB call_len_seq (by rfl) T.b_len PySem.boot_len (pa_cons (pv 3) pa_nil))) po_none) pa_nil))) pa_nil))) (pg_tup rfl (pgs_cons (pg_name (i := 3) sc_Base_left_of.nd rfl (by first | exact Or.inl rfl | exact Or.inr rfl)) (pgs_cons (pg_name (i := 4) sc_Base_left_of.nd rfl (by first | exact Or.inl rfl | exact Or.inr rfl)) pgs_nil)))))))))) pss_nil)))
        (pss_one (ps_ret (pe_tup (pa_cons (pv 3) (pa_cons (pv 4) pa_nil))))))), ?_⟩
    obtain ⟨dt, ro, ras, ht1, _⟩ := id hT.ob
    -- field = self.own_table.field
    refine ⟨_, rfl, b, _, dx, _, _, rfl, hb, T.c_Base, T.n_Base_own_table, rfl, t, dt, _, rfl, ht1, t, Tb, rfl, hT, ?_⟩
    -- numbers, parts = list(self.own_table.row_at(row)), {row: 1}
    obtain ⟨r, hrow⟩ : ∃ r, Tb.rows[x]? = some r := ⟨Tb.rows[x], List.getElem?_eq_getElem xn⟩
    refine ⟨_, rfl, b, _, dx, _, _, rfl, hb, T.c_Base, T.n_Base_own_table, rfl, t, dt, _, rfl, ht1, rfl, _, rfl, t, Tb, x, r, rfl, hT, hrow, fun ra hra => ?_⟩
    refine ⟨ra, _, rfl, .inr hra, fun nl hnl => ?_⟩
    intro pd hpd
    have npn : nl ≠ pd := ne_of_none upd_same hpd
    have hpd0 : H pd = none := by rw [upd_ne npn.symm] at hpd; exact hpd
    refine ⟨.int x, rfl, upd_same, [(Sum.inl (x : Int), .int 1)], rfl, Nat.le_of_ble_eq_true rfl, (by show 2 ≤ sizeLine; decide), fun tp htp => ?_⟩
    refine ⟨tp, _, rfl, SqT.of upd_same, rfl, _, _, rfl, _, _, rfl, rfl, ?_⟩
    -- the heap ahead of the loop
    have s1 : Same H (upd H nl (.lst (r.map V.int))) := same_upd hnl
    have s2 := s1.trans (same_upd (o := .dK []) hpd)
    have s3 := same_chg (p := pd) (o := .dK (mergeK [] [((Sum.inl (x : Int) : Key), V.int 1)])) s2 hpd0
    have ntp : tp ≠ pd := (ne_of_none upd_same htp).symm
    have ntn : tp ≠ nl := fun e => by
      rw [e, upd_ne npn, upd_ne npn, upd_same] at htp
      cases htp
    have s4 := s3.trans (same_upd (o := .tup [.ref nl, .ref pd]) htp)
    refine ⟨_, rfl, b, _, dx, _, _, rfl, s4 _ _ hb, T.c_Base, T.n_Base_steps, rfl, l, rfl, ⟨_, SqL.of (s4 _ _ hl)⟩, ?_⟩
    refine for_it (walk_list (xs := qs.map V.ref)) (fun i σ H' => ∃ nl pd v ks c y5 y6 y7 y8 y9 y10 y11 y12 y13 y14 y15, σ = [some (.ref b), some (.int (x : Int)), some (.int Tb.p), some (.ref nl), some (.ref pd), y5, y6, y7, y8, y9, y10, y11, y12, y13, y14, y15] ∧
      Same H H' ∧ H nl = none ∧ H pd = none ∧ H' nl = some (.lst (v.map V.int)) ∧ H' pd = some (.dK (mkd ks c)) ∧ CRed Tb lot x (S.take i) v ks c) ?_ (fun i σ H' _ hP => ?_) (fun i z σ H1 H2 hi hP hy => ?_) fun σ H' hP => ?_
    · refine ⟨nl, pd, r, [x], fun k => if k = x then 1 else 0, none, none, none, none, none, none, none, none, none, none, none, rfl, s4, hnl, hpd0, ?_, ?_, cred_start O hrow⟩
      · rw [upd_ne ntn.symm, upd_ne npn, upd_ne npn, upd_same]
      · rw [upd_ne ntp.symm, upd_same]
        show some (HO.dK [((Sum.inl (x : Int) : Key), V.int 1)]) = some (HO.dK [((Sum.inl (x : Int) : Key), V.int (if x = x then 1 else 0))])
        rw [if_pos rfl]
    · obtain ⟨nl, pd, v, ks, c, _, _, _, _, _, _, _, _, _, _, _, rfl, sm, _⟩ := hP
      exact SqL.of (sm _ _ hl)
    · -- one turn
      obtain ⟨nl, pd, v, ks, c, y5, y6, y7, y8, y9, y10, y11, y12, y13, y14, y15, rfl, sm, nn, np, gn, gp, R⟩ := hP
      obtain ⟨rfl, hz⟩ := hy
      obtain ⟨q0, hq0, rfl⟩ := ref_at hz
      have hiS : i < S.length := by rw [← hqs]; exact (List.getElem?_eq_some_iff.mp hq0).1
      have hsi : S[i]? = some S[i] := List.getElem?_eq_getElem hiS
      obtain ⟨q1, hq1, kl, kd, g1, g2, g3⟩ := hst i S[i] hsi
      rw [hq0] at hq1
      cases hq1
      have eS : S = S.take i ++ S[i] :: S.drop (i + 1) := by rw [List.getElem_cons_drop, List.take_append_drop]
      have eS1 : S.take (i + 1) = S.take i ++ [S[i]] := by rw [List.take_add_one, hsi]; rfl
      have lti : (S.take i).length = i := by rw [List.length_take]; omega
      generalize hst2 : S[i] = st at *
      obtain ⟨Nst, lst, ldst, kst⟩ := el.num i st hsi
      refine ⟨q0, _, rfl, SqT.of (sm _ _ g1), rfl, _, _, rfl, _, _, rfl, _, _, rfl, rfl, ?_⟩
      -- if numbers[lead] != 0
      obtain ⟨y, hy⟩ : ∃ y, v[st.lead]? = some y := ⟨v[st.lead]'(by rw [R.len]; exact ldst), List.getElem?_eq_getElem _⟩
      refine ⟨_, rfl, _, rfl, nl, _, _, _, rfl, rfl, SqL.of gn, at_nat (at_map V.int hy), rfl, _, rfl, ?_⟩
      by_cases y0 : y = 0
      · subst y0
        refine itF (by simp) ?_
        refine ⟨nl, pd, v, ks, c, _, _, _, _, _, _, _, _, _, _, _, rfl, sm, nn, np, gn, gp, ?_⟩
        rw [eS1]
        exact cred_skip R hy
      · refine itT (by simp [y0]) ?_
        have hRn : NumOk Tb.p (eB i) v ks c := by
          have := R.num
          rw [lti] at this
          exact this
        have hbi : eB i ≤ 3647 := Nat.le_trans (eB_le (show i ≤ 4 by omega)) (by decide)
        have hb0 : 0 < eB i := Nat.lt_of_lt_of_le (by decide) (eB_ge i)
        obtain ⟨up, hup⟩ : ∃ up, st.known[st.lead]? = some up := ⟨st.known[st.lead]'(by rw [lst]; exact ldst), List.getElem?_eq_getElem _⟩
        -- up, down = known[lead], numbers[lead]
        refine ⟨_, rfl, _, rfl, kl, _, _, _, rfl, rfl, SqL.of (sm _ _ g2), at_nat (at_map V.int hup), _, rfl, _, rfl, nl, _, _, _, rfl, rfl, SqL.of gn, at_nat (at_map V.int hy), (by show 2 ≤ sizeLine; decide), fun t2 ht2 => ?_⟩
        refine ⟨t2, _, rfl, SqT.of upd_same, rfl, _, _, rfl, _, _, rfl, rfl, ?_⟩
        have u1 := same_upd (o := .tup [.int up, .int y]) ht2
        -- keys = sorted(set([*parts, *makers]))
        refine ⟨_, rfl, pd, _, rfl, .inl (u1 _ _ gp), _, rfl, kd, _, rfl, .inl (u1 _ _ (sm _ _ g3)), ?_⟩
        have lk : ks.length ≤ 6 := Nat.le_trans (few hRn.nk R.klt) O.n6
        have lm : st.ks.length ≤ 6 := Nat.le_trans (few Nst.nk kst) O.n6
        refine ⟨?_, fun l1 hl1 => ?_⟩
        · rw [List.append_nil, List.length_append, List.length_map, List.length_map]
          unfold mkd
          rw [List.length_map, List.length_map]
          exact Nat.le_of_lt (small1000 (by omega))
        have ekl : ((mkd ks c).map fun kv => kV kv.1) ++ (((mkd st.ks st.c).map fun kv => kV kv.1) ++ []) = (castL ks ++ castL st.ks).map V.int := by
          rw [List.append_nil, mkd_keys, mkd_keys, List.map_append]
        rw [ekl]
        have u2 := u1.trans (same_upd (o := .lst ((castL ks ++ castL st.ks).map V.int)) hl1)
        refine ⟨l1, castL ks ++ castL st.ks, rfl, SqL.of upd_same, (by rw [List.length_append, List.length_map, List.length_map]; omega), fun p1 c1 hp1 hc1 => ?_⟩
        have u3 := u2.trans (same_upd (o := SetO w p1 (fun j => decide (j ∈ castL ks ++ castL st.ks)) c1) hp1)
        have hc64 : c1 < 64 := by
          rw [List.length_append, List.length_map, List.length_map] at hc1
          omega
        refine ⟨p1, _, c1, rfl, upd_same, hc64, fun ns q2 hpw hmem hlen hq2 => ?_⟩
        have u4 := u3.trans (same_upd (o := .lst (ns.map V.int)) hq2)
        -- the keys by indexes
        have nn0 : ∀ k, k ∈ ns → 0 ≤ k := fun k hk => by
          have h := of_decide_eq_true ((hmem k).mp hk)
          rcases List.mem_append.mp h with h | h
          · obtain ⟨z, _, e⟩ := List.mem_map.mp h
            omega
          · obtain ⟨z, _, e⟩ := List.mem_map.mp h
            omega
        obtain ⟨keys, ekeys⟩ : ∃ keys : List Nat, ns = castL keys := ⟨_, cast_of nn0⟩
        subst ekeys
        have mk : ∀ k, k ∈ keys ↔ k ∈ ks ∨ k ∈ st.ks := fun k => by
          have m1 : ∀ (l : List Nat), (k : Int) ∈ castL l ↔ k ∈ l := fun l => by
            constructor
            · intro h
              obtain ⟨z, hz, e⟩ := List.mem_map.mp h
              have e : z = k := by omega
              exact e ▸ hz
            · exact fun h => List.mem_map.mpr ⟨k, h, rfl⟩
          rw [← m1 keys, hmem, decide_eq_true_iff, List.mem_append, m1, m1]
        have nk : keys.Nodup := by
          have h := List.pairwise_map.mp hpw
          exact h.imp fun h => by omega
        have lk64 : keys.length < 64 := by rw [List.length_map] at hlen; omega
        -- numbers = [up * x - down * y for x, y in zip(numbers, known)]
        have v4 := sm.trans u4
        refine ⟨_, rfl, _, rfl, nl, kl, _, _, rfl, SqL.of (u4 _ _ gn), SqL.of (v4 _ _ g2), fun D1 hD1 => ?_⟩
        have hvk : v.length = st.known.length := by rw [R.len, lst]
        refine lc_w (walk_zip (n := v.length) (by rw [List.length_map, List.length_map, ← hvk, Nat.min_self])) (fun j => (stepV up y v st.known)[j]?.bind fun z => some (.int z)) hD1 (by rw [R.len]; have := O.w12; omega) (fun H4 s4 => ⟨SqL.of (s4 _ _ (u4 _ _ gn)), SqL.of (s4 _ _ (v4 _ _ g2))⟩) (fun j z H4 H5 hj s4 hy4 take skip => ?_) fun H4 s4 hD4 => ?_
        · obtain ⟨T4, x4, z4, rfl, hT4, rfl, hx4, hz4⟩ := hy4
          obtain ⟨x5, hx5, rfl⟩ := int_at hx4
          obtain ⟨z5, hz5, rfl⟩ := int_at hz4
          refine ⟨T4, _, rfl, SqT.of upd_same, rfl, _, _, rfl, _, _, rfl, rfl, rfl, ?_⟩
          refine ⟨_, rfl, _, rfl, up, x5, rfl, rfl, wide_mul (Nst.bv _ (List.mem_of_getElem? hup)) (hRn.bv _ (List.mem_of_getElem? hx5)) hb0 hb0 (by omega), _, rfl, _, rfl, y, z5, rfl, rfl, wide_mul (hRn.bv _ (List.mem_of_getElem? hy)) (Nst.bv _ (List.mem_of_getElem? hz5)) hb0 hb0 (by omega), _, _, rfl, rfl, take _ _ ?_ (same_upd hT4)⟩
          unfold stepV
          rw [List.getElem?_zipWith, hx5, hz5]
          rfl
        · have lsv : (stepV up y v st.known).length = v.length := by
            unfold stepV
            rw [List.length_zipWith, ← hvk, Nat.min_self]
          rw [← lsv, range_fm (stepV up y v st.known) (fun z => some (V.int z)), fm_some] at hD4
          have u5 := u4.trans s4
          have hD1H : H D1 = none := (sm.trans u4).free hD1
          -- counts = [up * parts.get(key, 0) - down * makers.get(key, 0) for key in keys]
          have gq2 : H4 q2 = some (.lst ((castL keys).map V.int)) := s4 _ _ upd_same
          refine ⟨_, rfl, q2, rfl, ⟨_, SqL.of gq2⟩, fun D2 hD2 => ?_⟩
          refine lc_w (walk_list (xs := (castL keys).map V.int)) (fun j => keys[j]?.bind fun k => some (.int (stepC up y c st.c k))) hD2 (by rw [List.length_map, List.length_map]; omega) (fun H5 s5 => SqL.of (s5 _ _ gq2)) (fun j z H5 H6 hj s5 hy5 take skip => ?_) fun H5 s5 hD5 => ?_
          · obtain ⟨rfl, hz5⟩ := hy5
            obtain ⟨kz, hkz, rfl⟩ := int_at hz5
            obtain ⟨k, hk, rfl⟩ : ∃ k : Nat, keys[j]? = some k ∧ kz = (k : Int) := by
              rw [List.getElem?_map] at hkz
              cases e : keys[j]? with
              | none => rw [e] at hkz; cases hkz
              | some k => rw [e] at hkz; exact ⟨k, rfl, (Option.some.inj hkz).symm⟩
            have gp5 := s5 _ _ (u5 _ _ gp)
            have gd5 := s5 _ _ (u5 _ _ (sm _ _ g3))
            refine ⟨rfl, _, rfl, _, rfl, pd, rfl, .inl ⟨_, .inl gp5⟩, _, rfl, _, DGet.k (k := (Sum.inl (k : Int) : Key)) gp5, up, c k, rfl, mkd_get hRn.kc k, wide_mul (Nst.bv _ (List.mem_of_getElem? hup)) (hRn.bc k) hb0 hb0 (by omega), ?_⟩
            refine ⟨_, rfl, _, rfl, kd, rfl, .inl ⟨_, .inl gd5⟩, _, rfl, _, DGet.k (k := (Sum.inl (k : Int) : Key)) gd5, y, st.c k, rfl, mkd_get Nst.kc k, wide_mul (hRn.bv _ (List.mem_of_getElem? hy)) (Nst.bc k) hb0 hb0 (by omega), _, _, rfl, rfl, take _ _ ?_ (Same.refl _)⟩
            rw [hk]
            rfl
          · have lck : ((castL keys).map V.int).length = keys.length := by rw [List.length_map, List.length_map]
            rw [lck, range_fm keys (fun k => some (V.int (stepC up y c st.c k))), fm_some] at hD5
            have hD5' : H5 D2 = some (.lst ((keys.map (stepC up y c st.c)).map V.int)) := by rw [hD5, List.map_map]; rfl
            have u6 := u5.trans s5
            -- whole = leaned([*numbers, *counts], field)
            refine ⟨_, rfl, D1, _, rfl, .inr (SqL.of (s5 _ _ hD4)), _, rfl, D2, _, rfl, .inr (SqL.of hD5'), ?_⟩
            have elw : (stepV up y v st.known).map V.int ++ ((keys.map (stepC up y c st.c)).map V.int ++ []) = (stepV up y v st.known ++ keys.map (stepC up y c st.c)).map V.int := by
              rw [List.append_nil, List.map_append]
            have lwh : (stepV up y v st.known ++ keys.map (stepC up y c st.c)).length ≤ 1000 := by
              rw [List.length_append, List.length_map, lsv, R.len]
              have := O.w12
              omega
            refine ⟨by rw [elw, List.length_map]; exact Nat.le_of_lt (small1000 lwh), fun l2 hl2 => ?_⟩
            rw [elw]
            generalize hwhole : stepV up y v st.known ++ keys.map (stepC up y c st.c) = whole at *
            have u7 := u6.trans (same_upd (o := .lst (whole.map V.int)) hl2)
            have R' := cred_step O (eS ▸ el) R xl hup hy nk mk hwhole.symm
            have bwh : ∀ z, z ∈ whole → z.natAbs < 2 ^ 9000 := fun z hz => by
              have b1 : z.natAbs < 2 ^ (eB i + eB i + 1) := by
                rw [← hwhole] at hz
                rcases List.mem_append.mp hz with hz | hz
                · obtain ⟨x1, y1, h1, h2, e⟩ := mem_zip hz
                  rw [e]
                  exact comb_lt x1 y1 (Nst.bv _ (List.mem_of_getElem? hup)) (hRn.bv _ h1) (hRn.bv _ (List.mem_of_getElem? hy)) (Nst.bv _ h2)
                · obtain ⟨k, _, e⟩ := List.mem_map.mp hz
                  rw [← e]
                  exact comb_lt _ _ (Nst.bv _ (List.mem_of_getElem? hup)) (hRn.bc k) (hRn.bv _ (List.mem_of_getElem? hy)) (Nst.bc k)
              exact Nat.lt_of_lt_of_le b1 (Nat.pow_le_pow_right (by decide) (by omega))
            refine ⟨_, rfl, l2, whole, Tb.p, rfl, SqL.of upd_same, (fld_nn O.fp).1, lwh, bwh, fun H7 q3 s7 nq3 gq3 => ?_⟩
            have u8 := u7.trans s7
            have gD1 : H7 D1 = some (.lst ((stepV up y v st.known).map V.int)) := s7 _ _ (same_upd hl2 _ _ (s5 _ _ hD4))
            have gq2' : H7 q2 = some (.lst ((castL keys).map V.int)) := s7 _ _ (same_upd hl2 _ _ (s5 _ _ gq2))
            -- numbers, parts = whole[:len(numbers)], dict(zip(keys, whole[len(numbers):]))
            have e1 : cutV ((leanL whole Tb.p).map V.int) none (some (((stepV up y v st.known).map V.int).length : Nat)) = ((stepV up y v st.known).map (leanF whole Tb.p)).map V.int := by
              rw [cut_take, leanL, ← hwhole, List.map_append, List.map_append, List.take_left' (by rw [List.length_map, List.length_map, List.length_map])]
            have e2 : cutV ((leanL whole Tb.p).map V.int) (some (((stepV up y v st.known).map V.int).length : Nat)) none = ((keys.map fun k => leanF whole Tb.p (stepC up y c st.c k)).map V.int) := by
              rw [cut_drop, leanL]
              conv => lhs; rw [← hwhole]
              rw [List.map_append, List.map_append, List.drop_left' (by rw [List.length_map, List.length_map, List.length_map]), hwhole, List.map_map, List.map_map, List.map_map]
              rfl
            refine ⟨_, rfl, _, rfl, D1, _, rfl, .inl (SqL.of gD1), _, rfl, q3, _, rfl, SqL.of gq3, fun p2 hp2 => ?_⟩
            rw [e1]
            have t2' := same_upd (o := .lst (((stepV up y v st.known).map (leanF whole Tb.p)).map V.int)) hp2
            have u9 := u8.trans t2'
            refine ⟨_, rfl, _, rfl, _, rfl, D1, _, rfl, .inl (SqL.of (t2' _ _ gD1)), _, rfl, q3, _, rfl, SqL.of (t2' _ _ gq3), fun p3 hp3 => ?_⟩
            rw [e2]
            have n23 : p2 ≠ p3 := ne_of_none upd_same hp3
            have t3' := same_upd (o := .lst ((keys.map fun k => leanF whole Tb.p (stepC up y c st.c k)).map V.int)) hp3
            refine ⟨q2, p3, keys.map (fun (k : Nat) => (Sum.inl (k : Int) : Key)), _, rfl, ?_, SqL.of upd_same, ?_, fun p4 hp4 => ?_⟩
            · rw [kV_cast, ← ixs_cast]
              exact SqL.of (t3' _ _ (t2' _ _ gq2'))
            · rw [List.length_map, List.length_map, List.length_map]
            rw [mkd_zip, mkd_merge nk]
            have t4' := same_upd (o := .dK (mkd keys fun k => leanF whole Tb.p (stepC up y c st.c k))) hp4
            refine ⟨(by show 2 ≤ sizeLine; decide), fun t5 ht5 => ?_⟩
            have t5' := same_upd (o := .tup [.ref p2, .ref p4]) ht5
            refine ⟨t5, _, rfl, SqT.of upd_same, rfl, _, _, rfl, _, _, rfl, rfl, ?_⟩
            refine ⟨p2, p4, (stepV up y v st.known).map (leanF whole Tb.p), keys, fun k => leanF whole Tb.p (stepC up y c st.c k), _, _, _, _, _, _, _, _, _, _, _, rfl, ((sm.trans u9).trans t3').trans (t4'.trans t5'), (sm.trans u8).free hp2, (sm.trans (u9.trans t3')).free hp4, ?_, ?_, ?_⟩
            · exact t5' _ _ (t4' _ _ (t3' _ _ upd_same))
            · exact t5' _ _ upd_same
            · rw [eS1]
              exact R'
    · obtain ⟨nl, pd, v, ks, c, y5, y6, y7, y8, y9, y10, y11, y12, y13, y14, y15, rfl, sm, nn, np, gn, gp, R⟩ := hP
      have eS : S.take (qs.map V.ref).length = S := by rw [List.length_map, hqs, List.take_length]
      rw [eS] at R
      refine ⟨_, rfl, _, rfl, (by show 2 ≤ sizeLine; decide), fun t hq => ?_⟩
      have t1 := same_upd (o := .tup [.ref nl, .ref pd]) hq
      exact q _ t nl pd v ks c (sm.trans t1) upd_same nn np (t1 _ _ gn) (t1 _ _ gp) R
end
end FL
/-! Base.relation, add; Rows.base_of. -/
set_option Elab.async false
set_option linter.all false
set_option maxRecDepth 1000000
set_option maxHeartbeats 8000000
namespace FL
open PySem PySem.Spec PyProof.Rows L2
section
variable (P : Program) (w : World) {K : PySem.W.Frag} {mg : Str → Option Value} (base : Heap) {a : At}
def sp_relation (K : PySem.W.Frag) (a : At) : Sp := fun vs H Q _ => ∃ (b t l : Addr) (T : Tab) (lot : List Nat) (S : List CStep) (x : Nat), vs = [.ref b, .int (x : Int)] ∧ BasePre K a H b t l T lot S x ∧
  (∀ H', Same H H' → ¬ cl T.p T.vec (fun k => k ∈ lot) x → Q .non H') ∧
  ∀ H' d Z c, Same H H' → H d = none → H' d = some (.dK (mkd Z c)) → RelOk T.p T.n T.vec lot x Z → Q (.ref d) H'
theorem same_lst {H H' : Hp} {a : Addr} {xs : List V} (e : Same H H') (h : SqL K H a xs) : SqL K H' a xs := by
  rcases h with (h | ⟨o, h⟩) | h
  · exact .inl (.inl (e _ _ h))
  · exact .inl (.inr ⟨o, e _ _ h⟩)
  · exact .inr h
theorem any_false {v : List Int} (h : (v.map fun z => z != 0).any id = false) : ∀ y, y ∈ v → y = 0 := fun y hy => by
  rw [List.any_map, List.any_eq_false] at h
  have := h y hy
  simpa using this
theorem any_true {v : List Int} (h : (v.map fun z => z != 0).any id = true) : ¬ ∀ y, y ∈ v → y = 0 := fun q => by
  rw [List.any_map, List.any_eq_true] at h
  obtain ⟨y, hy, e⟩ := h
  have := q y hy
  subst this
  simp at e
theorem ok_Base_relation (T : Tx K mg a) : Fn P w K mg base 5 a.Base_relation (sp_relation K a) := by
  refine fn_d T.F_Base_relation sc_Base_relation (fun _ _ _ _ _ _ us hl => match us, hl with | [_, _], _ => rfl) (fun vs H Q E h => ?_) fun cdv A outer s H vs Q E hr h => ?_
  · obtain ⟨b, t, l, T, lot, S, x, rfl, _⟩ := h
    rfl
  · obtain ⟨b, t, l, Tb, lot, S, x, rfl, B, qn, qs⟩ := h
    have hu := hu_of hr
    obtain ⟨dx, hb⟩ := B.at_.ob
    refine ⟨_, pss_cons (ps_asg (pe_meth (pv 0) T.c_Base T.M_Base_left_of (ok_Base_left_of P w base T).ok (hr.mono (by decide)) (ok_Base_left_of P w base T).b .nil pass0 (pa_cons (pv 1) pa_nil)) (pg_tup rfl (pgs_cons (pg_name (i := 2) sc_Base_relation.nd rfl (by first | exact Or.inl rfl | exact Or.inr rfl)) (pgs_cons (pg_name (i := 3) sc_Base_relation.nd rfl (by first | exact Or.inl rfl | exact Or.inr rfl)) pgs_nil))))
        (pss_cons (ps_if (pt_val (pe_callB (cr_any rfl) (by rfl) T.b_any (by decide +kernel) (pa_cons (pe_lc (own := [("number", 4)]) rfl sc_Base_relation.nd (pi_list (pv 2)) (blkOk_by (N := ["self", "row", "numbers", "parts", "number", "key", "count"]) (sc := defScope s_Base_relation) (by decide +kernel)) (fun _ _ _ _ _ => (pg_name (i := 4) sc_Base_relation.nd rfl (by first | exact Or.inl rfl | exact Or.inr rfl))) (fun _ _ _ _ _ => pts_nil) (fun _ _ _ _ _ => (pe_cmpR op_ne (pv 4) pe_int (nomark _)))) pa_nil))) (pss_one (ps_ret pe_non)) pss_nil)
        (pss_one (ps_ret (pe_lock (pe_dc (own := [("key", 5), ("count", 6)]) rfl sc_Base_relation.nd (pi_items (pv 3)) (blkOk_by (N := ["self", "row", "numbers", "parts", "number", "key", "count"]) (sc := defScope s_Base_relation) (by decide +kernel)) (fun _ _ _ _ _ => (pg_two (K := K) 5 6 sc_Base_relation.nd)) (fun _ _ _ _ _ => (pts_one (pt_cmpR op_ne (pv 6) pe_int (nomark _)))) (fun _ _ _ _ _ => (pv 5)) (fun _ _ _ _ _ => (pv 6))))))), ?_⟩
    refine ⟨_, rfl, b, dx, _, rfl, hb, rfl, _, rfl, b, t, l, Tb, lot, S, x, rfl, B, fun H1 q0 nl pd v ks c s1 hq nn np gn gp R => ?_⟩
    refine ⟨q0, _, rfl, SqT.of hq, rfl, _, _, rfl, _, _, rfl, rfl, ?_⟩
    refine ⟨_, rfl, nl, rfl, ⟨_, SqL.of gn⟩, fun D hD => ?_⟩
    have n12 : v.length ≤ 12 := by rw [R.len]; exact B.ok.w12
    refine lc_w (walk_list (xs := v.map V.int)) (fun j => v[j]?.bind fun z => some (.bl (z != 0))) hD (by rw [List.length_map]; omega) (fun H5 s5 => SqL.of (s5 _ _ gn)) (fun j z H5 H6 hj s5 hy5 take skip => ?_) fun H5 s5 hD5 => ?_
    · obtain ⟨rfl, hz5⟩ := hy5
      obtain ⟨z, hz, rfl⟩ := int_at hz5
      refine ⟨rfl, _, rfl, rfl, take _ _ ?_ (Same.refl _)⟩
      rw [hz]
      show some (V.bl (z != 0)) = some (V.bl (!decide (V.int z = V.int 0)))
      rw [dec_int]
      rfl
    · have ev : (v.map V.int).length = v.length := List.length_map _
      rw [ev, range_fm v (fun z => some (V.bl (z != 0))), fm_some] at hD5
      refine ⟨D, v.map fun z => z != 0, rfl, SqL.of (by rw [hD5, List.map_map]; rfl), ?_⟩
      have u1 := s1.trans s5
      cases hany : (v.map fun z => z != 0).any id with
      | true =>
        refine ⟨_, rfl, qn _ u1 (cunmade B.ok B.el R B.lt B.xn (any_true hany))⟩
      | false =>
        refine ⟨_, rfl, ?_⟩
        have g5 := s5 _ _ gp
        refine ⟨pd, _, g5, trivial, fun od => ?_⟩
        refine ⟨_, rfl, pd, od, _, rfl, upd_same, fun d hd => ?_⟩
        have nd0 : pd ≠ d := ne_of_none upd_same hd
        have hd5 : H5 d = none := by rw [upd_ne nd0.symm] at hd; exact hd
        have hk6 : ks.length ≤ 6 := Nat.le_trans (few R.num.nk R.klt) B.ok.n6
        refine dc_w walk_items (fun i => ks[i]?.bind fun k => if c k != 0 then some (((Sum.inl (k : Int) : Key), V.int (c k))) else none) hd (by unfold mkd; rw [List.length_map]; omega) (by rw [fm_keys]; unfold mkd; rw [List.map_map]; exact castk_nodup (R.num.nk.filter _)) (fun H6 s6 => s6 _ _ upd_same) (fun i y H6 H7 hi s6 hy take skip => ?_) fun H6 s6 hd6 => ?_
        · obtain ⟨T4, x4, z4, rfl, hT4, rfl, hx4, hz4⟩ := hy
          obtain ⟨⟨k0, v0⟩, hkv, rfl⟩ := Option.map_eq_some_iff.mp hx4
          have hz4 : Option.map Prod.snd (mkd ks c)[i]? = some z4 := hz4
          rw [hkv] at hz4
          obtain rfl : v0 = z4 := Option.some.inj hz4
          obtain ⟨k, hk, rfl, rfl⟩ := mkd_at hkv
          refine ⟨T4, _, rfl, SqT.of upd_same, rfl, _, _, rfl, _, _, rfl, rfl, rfl, _, rfl, rfl, _, rfl, ?_⟩
          by_cases h0 : c k = 0
          · refine itF (by rw [dec_int, h0]; rfl) (skip _ (by rw [hk]; simp [h0]) (same_upd hT4))
          · exact itT (by rw [dec_int]; simp [h0]) ⟨_, rfl, _, rfl, take _ _ _ (by rw [hk]; simp [h0]) (same_upd hT4)⟩
        · rw [fm_keys] at hd6
          have u2 : Same H (upd H6 pd (.dK (mkd ks c))) := u1.trans (lock_same g5 s6)
          refine ⟨s6 _ _ upd_same, qs _ d _ c u2 (u1.free hd5) (by rw [upd_ne nd0.symm]; exact hd6) (crel B.ok R B.xn (any_false hany))⟩
theorem TabAt.but {C : Addr} {H H' : Hp} {t l : Addr} {T : Tab} {xs : List V} (h : TabAt K C H t T) (hl : H l = some (.lst xs)) (e : ∀ p o, H p = some o → p ≠ l → H' p = some o) : TabAt K C H' t T := by
  have nt : ∀ x xs, SqT K H x xs → SqT K H' x xs := fun x xs h => by
    rcases h with (h | ⟨o, h⟩) | h
    · exact .inl (.inl (e _ _ h fun e => by rw [e, hl] at h; cases h))
    · exact .inl (.inr ⟨o, e _ _ h fun e => by rw [e, hl] at h; cases h⟩)
    · exact .inr h
  obtain ⟨dt, ro, ras, h1, h2, h3, h4⟩ := h
  exact ⟨dt, ro, ras, e _ _ h1 (fun e => by rw [e, hl] at h1; cases h1), nt _ _ h2, h3, fun i r hr => let ⟨ra, e1, e2⟩ := h4 i r hr; ⟨ra, e1, nt _ _ e2⟩⟩
/-- one step more -/
theorem BaseAt.push {H H' : Hp} {b t l : Addr} {T : Tab} {S : List CStep} {qs : List Addr} {q : Addr} {s : CStep} (h : BaseAt K a H b t l T S) (hl : H l = some (.lst (qs.map V.ref))) (e : ∀ p o, H p = some o → p ≠ l → H' p = some o)
    (hl' : H' l = some (.lst ((qs ++ [q]).map V.ref))) (hq : StepAt H' q s) : BaseAt K a H' b t l T (S ++ [s]) := by
  obtain ⟨h1, ⟨dx, h2⟩, qs', h3, h4, h5⟩ := h
  rw [hl] at h3
  have e3 : qs.map V.ref = qs'.map V.ref := by injection h3 with h3; injection h3
  have e4 : qs.length = qs'.length := by have := congrArg List.length e3; rwa [List.length_map, List.length_map] at this
  have e5 : qs = qs' := List.map_inj_right (fun x y h => V.ref.inj h) |>.mp e3
  subst e5
  refine ⟨h1.but hl e, ⟨dx, e _ _ h2 fun e => by rw [e, hl] at h2; cases h2⟩, qs ++ [q], hl', by rw [List.length_append, List.length_append, h4]; rfl, fun i z hz => ?_⟩
  by_cases hi : i < S.length
  · rw [List.getElem?_append_left hi] at hz
    obtain ⟨q', hq', kl, kd, g1, g2, g3⟩ := h5 i z hz
    refine ⟨q', by rw [List.getElem?_append_left (by omega)]; exact hq', kl, kd, e _ _ g1 (fun e => by rw [e, hl] at g1; cases g1), e _ _ g2 (fun e => ?_), e _ _ g3 fun e => by rw [e, hl] at g3; cases g3⟩
    rw [e, hl] at g2
    have e2 : qs.map V.ref = z.known.map V.int := by injection g2 with g2; injection g2
    cases qs with
    | nil => simp at hq'
    | cons x xs =>
      cases hk : z.known with
      | nil => rw [hk] at e2; cases e2
      | cons y ys => rw [hk] at e2; cases e2
  · rw [List.getElem?_append_right (by omega)] at hz
    have hj : i = S.length := by
      have := (List.getElem?_eq_some_iff.mp hz).1
      have : i - S.length < 1 := this
      omega
    subst hj
    rw [Nat.sub_self] at hz
    have : s = z := Option.some.inj hz
    subst this
    exact ⟨q, by rw [List.getElem?_append_right (by omega), h4, Nat.sub_self]; rfl, hq⟩
def sp_add (K : PySem.W.Frag) (a : At) : Sp := fun vs H Q _ => ∃ (b t l : Addr) (T : Tab) (lot : List Nat) (S : List CStep) (x : Nat), vs = [.ref b, .int (x : Int)] ∧ BasePre K a H b t l T lot S x ∧
  ∀ H' r S', (∀ p o, H p = some o → p ≠ l → H' p = some o) → BaseAt K a H' b t l T S' → CElim T (lot ++ [x]) S' → S'.length ≤ S.length + 1 → Q r H'
def leadF (v : List Int) (j : Nat) : Option V := v[j]?.bind fun z => if z != 0 then some (V.int (j : Int)) else none
theorem lead_mem {v : List Int} {y : V} (hy : y ∈ (List.range v.length).filterMap (leadF v)) : ∃ (j : Nat) (z : Int), y = .int (j : Int) ∧ v[j]? = some z ∧ z ≠ 0 := by
  obtain ⟨j, _, e⟩ := List.mem_filterMap.mp hy
  unfold leadF at e
  cases hz : v[j]? with
  | none => rw [hz] at e; cases e
  | some z =>
    rw [hz] at e
    by_cases h0 : z = 0
    · simp [h0] at e
    · simp [h0] at e
      exact ⟨j, z, e.symm, hz, h0⟩
theorem lead_all {v : List Int} (e : (List.range v.length).filterMap (leadF v) = []) : ∀ y, y ∈ v → y = 0 := fun y hy => by
  obtain ⟨j, hj⟩ := List.getElem?_of_mem hy
  have hjl := (List.getElem?_eq_some_iff.mp hj).1
  rw [List.filterMap_eq_nil_iff] at e
  have := e j (List.mem_range.mpr hjl)
  unfold leadF at this
  rw [hj] at this
  by_cases h0 : y = 0
  · exact h0
  · simp [h0] at this
theorem ok_Base_add (T : Tx K mg a) : Fn P w K mg base 5 a.Base_add (sp_add K a) := by
  refine fn_d T.F_Base_add sc_Base_add (fun _ _ _ _ _ _ us hl => match us, hl with | [_, _], _ => rfl) (fun vs H Q E h => ?_) fun cdv A outer s H vs Q E hr h => ?_
  · obtain ⟨b, t, l, T, lot, S, x, rfl, _⟩ := h
    rfl
  · obtain ⟨b, t, l, Tb, lot, S, x, rfl, B, q⟩ := h
    obtain ⟨dx, hb⟩ := B.at_.ob
    refine ⟨_, pss_cons (ps_asg (pe_meth (pv 0) T.c_Base T.M_Base_left_of (ok_Base_left_of P w base T).ok (hr.mono (by decide)) (ok_Base_left_of P w base T).b .nil pass0 (pa_cons (pv 1) pa_nil)) (pg_tup rfl (pgs_cons (pg_name (i := 2) sc_Base_add.nd rfl (by first | exact Or.inl rfl | exact Or.inr rfl)) (pgs_cons (pg_name (i := 3) sc_Base_add.nd rfl (by first | exact Or.inl rfl | exact Or.inr rfl)) pgs_nil))))
        (pss_cons (ps_setLc (i := 4) (own := [("lead", 5), ("number", 6)]) rfl sc_Base_add.nd rfl rfl (sw_true rfl rfl rfl (by decide +kernel)) (pi_enum (by rfl) T.b_enumerate (pa_cons (pv 2) pa_nil)) (blkOk_by (N := ["self", "row", "numbers", "parts", "leads", "lead", "number"]) (sc := defScope s_Base_add) (by decide +kernel)) (fun _ _ _ _ _ => (pg_two (K := K) 5 6 sc_Base_add.nd)) (fun _ _ _ _ _ => (pts_one (pt_cmpR op_ne (pv 6) pe_int (nomark _)))) (fun _ _ _ _ _ => (pv 5)))
        (pss_cons (ps_if (pt_cmpR op_gt (pe_callB call_len_seq (by rfl) T.b_len PySem.boot_len (pa_cons (pv 4) pa_nil)) pe_int (nomark _)) (pss_one (ps_expr (pe_bm PySem.F.plainAttrs_list PySem.F.slot_list_append PySem.F.type_list_append mt_append (pe_fld (pv 0) rfl) (pa_cons (pe_tup (pa_cons (pe_ix ix_list (pv 4) pe_int (fun _ _ => rfl)) (pa_cons (pv 2) (pa_cons (pv 3) pa_nil)))) pa_nil)))) pss_nil)
        (pss_one (ps_ret (pe_cmpR op_gt (pe_callB call_len_seq (by rfl) T.b_len PySem.boot_len (pa_cons (pv 4) pa_nil)) pe_int (nomark _)))))), ?_⟩
    refine ⟨_, rfl, b, dx, _, rfl, hb, rfl, _, rfl, b, t, l, Tb, lot, S, x, rfl, B, fun H1 q0 nl pd v ks c s1 hq nn np gn gp R => ?_⟩
    refine ⟨q0, _, rfl, SqT.of hq, rfl, _, _, rfl, _, _, rfl, rfl, ?_⟩
    refine ⟨_, rfl, nl, _, rfl, SqL.of gn, fun D hD => ?_⟩
    have n12 : v.length ≤ 12 := by rw [R.len]; exact B.ok.w12
    refine lc_w (walk_enum (xs := v.map V.int)) (leadF v) hD (by rw [List.length_map]; omega) (fun H5 s5 => SqL.of (s5 _ _ gn)) (fun j z H5 H6 hj s5 hy5 take skip => ?_) fun H5 s5 hD5 => ?_
    · obtain ⟨T4, x4, z4, rfl, hT4, rfl, hx4, hz4⟩ := hy5
      obtain ⟨z, hz, rfl⟩ := int_at hz4
      obtain rfl : V.int (j : Int) = x4 := Option.some.inj hx4
      refine ⟨T4, _, rfl, SqT.of upd_same, rfl, _, _, rfl, _, _, rfl, rfl, rfl, _, rfl, rfl, _, rfl, ?_⟩
      by_cases h0 : z = 0
      · refine itF (by rw [dec_int, h0]; rfl) (skip _ (by unfold leadF; rw [hz]; simp [h0]) (same_upd hT4))
      · exact itT (by rw [dec_int]; simp [h0]) ⟨_, rfl, take _ _ (by unfold leadF; rw [hz]; simp [h0]) (same_upd hT4)⟩
    · have u1 := s1.trans s5
      have ev : (v.map V.int).length = v.length := List.length_map _
      rw [ev] at hD5
      have hmem := @lead_mem v
      have hall := @lead_all v
      generalize (List.range v.length).filterMap (leadF v) = LS at *
      refine ⟨_, rfl, D, _, rfl, .inl (SqL.of hD5), _, _, rfl, rfl, _, rfl, ?_⟩
      cases LS with
      | nil =>
        refine itF rfl ?_
        refine ⟨_, rfl, D, _, rfl, .inl (SqL.of hD5), _, _, rfl, rfl, ?_⟩
        refine q _ _ S (fun p o e _ => u1 _ _ e) (B.at_.same u1) (celim_same B.el R (hall rfl)) (Nat.le_succ _)
      | cons y0 LS =>
        obtain ⟨j0, z0, rfl, hz0, h0⟩ := hmem List.mem_cons_self
        refine itT (decide_eq_true (by show (0:Int) < ((LS.length + 1 : Nat) : Int); omega)) ?_
        obtain ⟨hT, ⟨dx', hb'⟩, qs, hl, hqs, hst⟩ := id B.at_
        refine ⟨_, rfl, b, _, dx, _, _, rfl, u1 _ _ hb, T.c_Base, T.n_Base_steps, rfl, .inl ⟨rfl, _, SqL.of (u1 _ _ hl)⟩, _, rfl, D, _, _, _, rfl, rfl, SqL.of hD5, at_nat (j := 0) (v := .int (j0 : Int)) rfl, _, rfl, _, rfl, (by show 3 ≤ sizeLine; decide), fun q1 hq1 => ?_⟩
        have u2 := u1.trans (same_upd (o := .tup [.int (j0 : Int), .ref nl, .ref pd]) hq1)
        refine ⟨l, _, _, rfl, rfl, u2 _ _ hl, (by rw [List.length_map, hqs]; exact Nat.lt_of_le_of_lt B.five (by decide)), ?_⟩
        have n1 : l ≠ q1 := ne_of_none (u1 _ _ hl) hq1
        have n2 : nl ≠ l := fun e => by rw [e, hl] at nn; cases nn
        have n3 : pd ≠ l := fun e => by rw [e, hl] at np; cases np
        have e1 : qs.map V.ref ++ [.ref q1] = (qs ++ [q1]).map V.ref := by rw [List.map_append]; rfl
        rw [e1]
        have nlD : l ≠ D := ne_of_none (s1 _ _ hl) hD
        have nlq : l ≠ q0 := fun e => by rw [← e, s1 _ _ hl] at hq; cases hq
        refine ⟨_, rfl, D, _, rfl, .inl (SqL.of (by rw [upd_ne nlD.symm]; exact same_upd hq1 _ _ hD5)), _, _, rfl, rfl, ?_⟩
        refine q _ _ (S ++ [⟨j0, v, ks, c⟩]) (fun p o e hp => by rw [upd_ne hp]; exact u2 _ _ e) ?_ (celim_add B.el R B.ok.fp hz0 h0) (by rw [List.length_append]; exact Nat.le_refl _)
        refine BaseAt.push (q := q1) B.at_ hl (fun p o e hp => by rw [upd_ne hp]; exact u2 _ _ e) upd_same ⟨nl, pd, ?_, ?_, ?_⟩
        · rw [upd_ne n1.symm, upd_same]
        · rw [upd_ne n2]
          exact same_upd hq1 _ _ (s5 _ _ gn)
        · rw [upd_ne n3]
          exact same_upd hq1 _ _ (s5 _ _ gp)
def sp_base_of (K : PySem.W.Frag) (a : At) : Sp := fun vs H Q _ => ∃ (t lp : Addr) (T : Tab) (lot : List Nat), vs = [.ref t, .ref lp] ∧ TabAt K a.Rows H t T ∧ TabOk T ∧ SqL K H lp (ixs lot) ∧ lot.Nodup ∧ (∀ k, k ∈ lot → k < T.n) ∧ lot.length ≤ 5 ∧
  ∀ H' b l S, Same H H' → H b = none → H l = none → BaseAt K a H' b t l T S → CElim T lot S → S.length ≤ 5 → Q (.ref b) H'
theorem ok_Rows_base_of (T : Tx K mg a) : Fn P w K mg base 6 a.Rows_base_of (sp_base_of K a) := by
  refine fn_d T.F_Rows_base_of sc_Rows_base_of (fun _ _ _ _ _ _ us hl => match us, hl with | [_, _], _ => rfl) (fun vs H Q E h => ?_) fun cdv A outer s H vs Q E hr h => ?_
  · obtain ⟨t, lp, T, lot, rfl, _⟩ := h
    rfl
  · obtain ⟨t, lp, Tb, lot, rfl, hT, O, hlp, nd, lt, l5, q⟩ := h
    refine ⟨_, pss_cons (ps_set (i := 2) sc_Rows_base_of.nd rfl (by first | exact Or.inl rfl | exact Or.inr rfl) (pe_make T.k_Base (ok_Base_init P w base T).ok (hr.mono (by decide)) (by rfl) T.gC_Base (ok_Base_init P w base T).b .nil pass0 (pa_cons (pv 0) pa_nil)))
        (pss_cons (ps_for PassesOwn.never rfl (pi_list (pv 1)) (pg_name (i := 3) sc_Rows_base_of.nd rfl (by first | exact Or.inl rfl | exact Or.inr rfl)) (pss_one (ps_expr (pe_meth (pv 2) T.c_Base T.M_Base_add (ok_Base_add P w base T).ok (hr.mono (by decide)) (ok_Base_add P w base T).b .nil pass0 (pa_cons (pv 3) pa_nil)))))
        (pss_one (ps_ret (pv 2)))), ?_⟩
    refine ⟨_, rfl, fun b dx hbn hdn hne => ?_⟩
    have n0 : Same H (upd (upd H dx (.own b)) b (.ins a.Base dx [])) := (same_upd hdn).trans (same_upd (by rw [upd_ne hne.symm]; exact hbn))
    refine ⟨b, dx, t, Tb, rfl, upd_same, hT.same n0, fun l H1 hl0 old hB => ⟨rfl, ?_⟩⟩
    have hl00 : H l = none := n0.free hl0
    have s1 : Same H H1 := fun p o e => old _ _ (n0 _ _ e) (ne_of_none e hbn)
    refine ⟨_, rfl, lp, rfl, ⟨_, same_lst s1 hlp⟩, ?_⟩
    refine for_it (walk_list (xs := ixs lot)) (fun i σ H' => ∃ S y3, σ = [some (.ref t), some (.ref lp), some (.ref b), y3] ∧ Same H H' ∧ BaseAt K a H' b t l Tb S ∧ CElim Tb (lot.take i) S ∧ S.length ≤ i) ?_ (fun i σ H' _ hP => ?_) (fun i z σ H1 H2 hi hP hy => ?_) fun σ H' hP => ?_
    · exact ⟨[], _, rfl, s1, hB, celim_start, Nat.le_refl _⟩
    · obtain ⟨S, y3, rfl, s2, _⟩ := hP
      exact same_lst s2 hlp
    · obtain ⟨S, y3, rfl, s2, hB2, el, sl⟩ := hP
      obtain ⟨rfl, hz⟩ := hy
      obtain ⟨k, hk, rfl⟩ := ix_at hz
      have hil : i < lot.length := (List.getElem?_eq_some_iff.mp hk).1
      obtain ⟨_, hb2⟩ := hB2.ob
      have ek : lot.take (i + 1) = lot.take i ++ [k] := by rw [List.take_add_one, hk]; rfl
      refine ⟨_, rfl, b, _, _, rfl, hb2, rfl, _, rfl, b, t, l, Tb, lot.take i, S, k, rfl, ⟨hB2, O, el, by omega, fun k hk => lt k (List.mem_of_mem_take hk), lt k (List.mem_of_getElem? hk), fun hm => ?_⟩, fun H3 r S' old3 hB3 el3 sl3 => ?_⟩
      · have n2 : (lot.take (i + 1)).Nodup := nd.sublist (List.take_sublist _ _)
        rw [ek] at n2
        exact (List.nodup_append.mp n2).2.2 k hm k (List.mem_singleton.mpr rfl) rfl
      · exact ⟨S', _, rfl, fun p o e => old3 _ _ (s2 _ _ e) (ne_of_none e hl00), hB3, by rw [ek]; exact el3, by omega⟩
    · obtain ⟨S, y3, rfl, s2, hB2, el, sl⟩ := hP
      have e5 : lot.take (ixs lot).length = lot := by rw [List.length_map, List.take_length]
      rw [e5] at el
      rw [List.length_map] at sl
      exact ⟨_, rfl, q _ b l S s2 hbn hl00 hB2 el (by omega)⟩
end
end FL
/-! Copies, CopiesBase. -/
set_option Elab.async false
set_option linter.all false
set_option maxRecDepth 1000000
set_option maxHeartbeats 8000000
namespace FL
open PySem PySem.Spec PyProof.Rows L2
/-! ### the plain side -/
abbrev fr (rows : List Nat) : Nat → Nat := fun i => rows.getD i 0
structure CopOk (T : Tab) (g : Nat) (Kp rows : List Nat) : Prop where
  ok : TabOk T
  kn : Kp.Nodup
  kl : ∀ k, k ∈ Kp → k < T.n ∧ k ≠ g
  rl : ∀ r, r ∈ rows → r < T.n ∧ r ≠ g ∧ r ∉ Kp
  gn : g < T.n
  len : rows.length ≤ 6
abbrev plC (T : Tab) (Kp rows : List Nat) : Cl := pull (fr rows) (cl T.p T.vec) fun k => k ∈ Kp
structure LotOk (T : Tab) (Kp rows lot : List Nat) : Prop where
  nd : lot.Nodup
  lt : ∀ s, s ∈ lot → s < rows.length
  ind : Ind (plC T Kp rows) fun s => s ∈ lot
section
variable {T : Tab} {g : Nat} {Kp rows lot : List Nat}
theorem fr_mem (h : s < rows.length) : fr rows s ∈ rows := by
  show rows.getD s 0 ∈ rows
  rw [List.getD_eq_getElem?_getD, List.getElem?_eq_getElem h]
  exact List.getElem_mem h
theorem fr_at (h : s < rows.length) : rows[s]? = some (fr rows s) := by
  show rows[s]? = some (rows.getD s 0)
  rw [List.getD_eq_getElem?_getD, List.getElem?_eq_getElem h]
  rfl
theorem plC_clo (C : CopOk T g Kp rows) : Clo (plC T Kp rows) := (cl_clo (fld_mem C.ok.fp) T.vec).pull (fr rows) _
theorem LotOk.inj (C : CopOk T g Kp rows) (L : LotOk T Kp rows lot) {s s' : Nat} (hs : s ∈ lot) (hs' : s' ∈ lot) (e : fr rows s = fr rows s') : s = s' := Classical.byContradiction fun ne => by
  refine L.ind s hs ((cl_clo (fld_mem C.ok.fp) T.vec).ext (.inr ⟨s', ⟨hs', fun q => ne q.symm⟩, e.symm⟩))
theorem LotOk.map_nd (C : CopOk T g Kp rows) (L : LotOk T Kp rows lot) : (lot.map (fr rows)).Nodup := by
  have : ∀ l : List Nat, l.Nodup → (∀ s, s ∈ l → s ∈ lot) → (l.map (fr rows)).Nodup := fun l => by
    induction l with
    | nil => intro _ _; exact List.nodup_nil
    | cons x l ih =>
      intro n h
      rw [List.nodup_cons] at n
      rw [List.map_cons, List.nodup_cons]
      refine ⟨fun q => ?_, ih n.2 fun s hs => h s (List.mem_cons_of_mem _ hs)⟩
      obtain ⟨y, hy, e⟩ := List.mem_map.mp q
      have := L.inj C (h y (List.mem_cons_of_mem _ hy)) (h x List.mem_cons_self) e
      exact n.1 (this ▸ hy)
  exact this lot L.nd fun s hs => hs
theorem LotOk.rows_nd (C : CopOk T g Kp rows) (L : LotOk T Kp rows lot) : (rowsOf (fr rows) Kp lot).Nodup := by
  refine List.nodup_append.mpr ⟨C.kn, L.map_nd C, fun x hx y hy e => ?_⟩
  obtain ⟨s, hs, rfl⟩ := List.mem_map.mp hy
  exact (C.rl _ (fr_mem (L.lt s hs))).2.2 (e ▸ hx)
theorem LotOk.rows_lt (C : CopOk T g Kp rows) (L : LotOk T Kp rows lot) : ∀ k, k ∈ rowsOf (fr rows) Kp lot → k < T.n ∧ k ≠ g := fun k hk => by
  rcases List.mem_append.mp hk with h | h
  · exact C.kl k h
  · obtain ⟨s, hs, rfl⟩ := List.mem_map.mp h
    exact ⟨(C.rl _ (fr_mem (L.lt s hs))).1, (C.rl _ (fr_mem (L.lt s hs))).2.1⟩
theorem LotOk.five (C : CopOk T g Kp rows) (L : LotOk T Kp rows lot) : (rowsOf (fr rows) Kp lot).length ≤ 5 := by
  have h := few (l := g :: rowsOf (fr rows) Kp lot) (n := T.n) (List.nodup_cons.mpr ⟨fun q => (L.rows_lt C g q).2 rfl, L.rows_nd C⟩) fun k hk => by
    rcases List.mem_cons.mp hk with e | e
    · exact e ▸ C.gn
    · exact (L.rows_lt C k e).1
  have := C.ok.n6
  rw [List.length_cons] at h
  have : T.n ≤ 6 := this
  omega
end
/-- the thing of each row -/
def tho (rows lot : List Nat) : List (Key × V) := lot.map fun (s : Nat) => ((Sum.inl ((fr rows s : Nat) : Int) : Key), V.int (s : Int))
theorem tho_keys (rows lot : List Nat) : ((tho rows lot).map fun kv => kV kv.1) = ixs (lot.map (fr rows)) := by
  unfold tho ixs
  rw [List.map_map, List.map_map]
  rfl
def thg (rows lot : List Nat) (r : Nat) : Option Nat := lot.find? fun s => fr rows s == r
theorem tho_val (rows lot : List Nat) (r : Nat) : valV (tho rows lot) (Sum.inl (r : Int) : Key) = (thg rows lot r).map fun (s : Nat) => V.int (s : Int) := by
  unfold valV tho thg
  induction lot with
  | nil => rfl
  | cons x ks ih =>
    rw [List.map_cons, List.find?_cons, List.find?_cons]
    by_cases e : fr rows x = r
    · rw [decide_eq_true (by rw [e]), show (fr rows x == r) = true from beq_iff_eq.mpr e]
      rfl
    · have hne : ¬ ((Sum.inl ((fr rows x : Nat) : Int) : Key) = Sum.inl (r : Int)) := fun q => e (by have := Sum.inl.inj q; omega)
      rw [decide_eq_false hne, show (fr rows x == r) = false from beq_false_of_ne e]
      exact ih
theorem thg_some {rows lot : List Nat} {r s : Nat} (h : thg rows lot r = some s) : s ∈ lot ∧ fr rows s = r := ⟨List.mem_of_find?_eq_some h, by simpa using List.find?_some h⟩
theorem thg_none {rows lot : List Nat} {r : Nat} (h : thg rows lot r = none) : ∀ s, s ∈ lot → fr rows s ≠ r := fun s hs e => by
  have := List.find?_eq_none.mp h s hs
  rw [e] at this
  exact this (beq_self_eq_true r)
theorem dget_tho {H : Hp} {d : Addr} {rows lot : List Nat} {r : Nat} {o : Option Nat} (h : H d = some (.dK (tho rows lot))) (e : thg rows lot r = o) : DGet H d (.int (r : Int)) (o.map fun (s : Nat) => V.int (s : Int)) := by
  have := DGet.k (k := (Sum.inl (r : Int) : Key)) h
  rw [tho_val, e] at this
  exact this
theorem thg_nd {rows lot : List Nat} : ∀ {Z : List Nat}, Z.Nodup → (Z.filterMap (thg rows lot)).Nodup
  | [], _ => List.nodup_nil
  | z :: Z, h => by
    rw [List.nodup_cons] at h
    rw [List.filterMap_cons]
    cases e : thg rows lot z with
    | none => exact thg_nd h.2
    | some s =>
      refine List.nodup_cons.mpr ⟨fun q => ?_, thg_nd h.2⟩
      obtain ⟨k, hk, e2⟩ := List.mem_filterMap.mp q
      have := (thg_some e).2
      have := (thg_some e2).2
      have : z = k := by omega
      exact h.1 (this ▸ hk)
/-! ### objects -/
section
variable {K : PySem.W.Frag} {a : At}
def Odd (H : Hp) (x : Addr) : Prop := ∃ C dx fs, H x = some (.ins C dx fs) ∧ fs.lookup ("own_field" : Str) = none ∧ fs.lookup ("steps" : Str) = none
theorem TabAt.odd {C : Addr} {H H' : Hp} {t x : Addr} {T : Tab} (h : TabAt K C H t T) (o : Odd H x) (e : ∀ p o, H p = some o → p ≠ x → H' p = some o) : TabAt K C H' t T := by
  obtain ⟨Cx, dx, fs, hx, n1, n2⟩ := o
  have nt : ∀ y xs, SqT K H y xs → SqT K H' y xs := fun y xs h => by
    rcases h with (h | ⟨o, h⟩) | h
    · exact .inl (.inl (e _ _ h fun e => by rw [e, hx] at h; cases h))
    · exact .inl (.inr ⟨o, e _ _ h fun e => by rw [e, hx] at h; cases h⟩)
    · exact .inr h
  obtain ⟨dt, ro, ras, h1, h2, h3, h4⟩ := h
  refine ⟨dt, ro, ras, e _ _ h1 (fun e => ?_), nt _ _ h2, h3, fun i r hr => let ⟨ra, e1, e2⟩ := h4 i r hr; ⟨ra, e1, nt _ _ e2⟩⟩
  rw [e, hx] at h1
  injection h1 with h1
  injection h1 with _ _ h1
  rw [h1] at n1
  cases n1
theorem BaseAt.odd {H H' : Hp} {b t l x : Addr} {T : Tab} {S : List CStep} (h : BaseAt K a H b t l T S) (o : Odd H x) (e : ∀ p o, H p = some o → p ≠ x → H' p = some o) : BaseAt K a H' b t l T S := by
  obtain ⟨h1, ⟨db, h2⟩, qs, h3, h4, h5⟩ := h
  refine ⟨h1.odd o e, ⟨db, ?_⟩, qs, ?_, h4, fun i s hs => ?_⟩ <;> obtain ⟨Cx, dx, fs, hx, n1, n2⟩ := o
  · refine e _ _ h2 fun e => ?_
    rw [e, hx] at h2
    injection h2 with h2
    injection h2 with _ _ h2
    rw [h2] at n2
    cases n2
  · exact e _ _ h3 fun e => by rw [e, hx] at h3; cases h3
  · obtain ⟨q, hq, kl, kd, g1, g2, g3⟩ := h5 i s hs
    exact ⟨q, hq, kl, kd, e _ _ g1 (fun e => by rw [e, hx] at g1; cases g1), e _ _ g2 (fun e => by rw [e, hx] at g2; cases g2), e _ _ g3 fun e => by rw [e, hx] at g3; cases g3⟩
/-- Copies -/
structure CopAt (K : PySem.W.Frag) (a : At) (H : Hp) (c t p q : Addr) (T : Tab) (Kp rows : List Nat) : Prop where
  tab : TabAt K a.Rows H t T
  ob : ∃ dx, H c = some (.ins a.Copies dx [("own_table", .ref t), ("copied", .ref p), ("ahead", .ref q)])
  hp : H p = some (.lst (ixs rows))
  hq : H q = some (.lst (ixs Kp))
theorem CopAt.same {H H' : Hp} {c t p q : Addr} {T : Tab} {Kp rows : List Nat} (h : CopAt K a H c t p q T Kp rows) (e : Same H H') : CopAt K a H' c t p q T Kp rows :=
  ⟨h.tab.same e, let ⟨dx, h⟩ := h.ob; ⟨dx, e _ _ h⟩, e _ _ h.hp, e _ _ h.hq⟩
/-- CopiesBase -/
def CbAt (K : PySem.W.Frag) (a : At) (H : Hp) (cb p l : Addr) (T : Tab) (Kp rows lot : List Nat) : Prop := ∃ dx d b t S, H cb = some (.ins a.CopiesBase dx [("copied", .ref p), ("thing_of", .ref d), ("base", .ref b)]) ∧ H p = some (.lst (ixs rows)) ∧
  H d = some (.dK (tho rows lot)) ∧ BaseAt K a H b t l T S ∧ CElim T (rowsOf (fr rows) Kp lot) S ∧ S.length ≤ 5
theorem CbAt.same {H H' : Hp} {cb p l : Addr} {T : Tab} {Kp rows lot : List Nat} (h : CbAt K a H cb p l T Kp rows lot) (e : Same H H') : CbAt K a H' cb p l T Kp rows lot := by
  obtain ⟨dx, d, b, t, S, h1, h2, h3, h4, h5, h6⟩ := h
  exact ⟨dx, d, b, t, S, e _ _ h1, e _ _ h2, e _ _ h3, h4.same e, h5, h6⟩
/-- a list of references may change -/
theorem CbAt.but {H H' : Hp} {cb p l D : Addr} {T : Tab} {Kp rows lot : List Nat} {cs : List Addr} (h : CbAt K a H cb p l T Kp rows lot) (hD : H D = some (.lst (cs.map V.ref))) (np : p ≠ D) (nl : l ≠ D) (e : ∀ x o, x ≠ D → H x = some o → H' x = some o) : CbAt K a H' cb p l T Kp rows lot := by
  obtain ⟨dx, d, b, t, S, h1, h2, h3, ⟨g1, ⟨db, g2⟩, qs, g3, g4, g5⟩, h5, h6⟩ := h
  refine ⟨dx, d, b, t, S, e _ _ (fun q => ?_) h1, e _ _ np h2, e _ _ (fun q => ?_) h3, ⟨g1.but hD fun p o h n => e p o n h, ⟨db, e _ _ (fun q => ?_) g2⟩, qs, e _ _ nl g3, g4, fun i s hs => ?_⟩, h5, h6⟩
  · rw [q, hD] at h1; cases h1
  · rw [q, hD] at h3; cases h3
  · rw [q, hD] at g2; cases g2
  · obtain ⟨q, hq, kl, kd, f1, f2, f3⟩ := g5 i s hs
    refine ⟨q, hq, kl, kd, e _ _ (fun z => by rw [z, hD] at f1; cases f1) f1, e _ _ (fun z => ?_) f2, e _ _ (fun z => by rw [z, hD] at f3; cases f3) f3⟩
    rw [z, hD] at f2
    obtain ⟨_, w1, w2, _⟩ := h5.num i s hs
    have f4 : cs.map V.ref = s.known.map V.int := by injection f2 with f2; injection f2
    cases hk : s.known with
    | nil => rw [hk] at w1; simp at w1; omega
    | cons x xs =>
      rw [hk] at f4
      cases cs with
      | nil => cases f4
      | cons y ys => cases f4
end
section
variable (P : Program) (w : World) {K : PySem.W.Frag} {mg : Str → Option Value} (base : Heap) {a : At}
def sp_Copies (K : PySem.W.Frag) (a : At) : Sp := fun vs H Q _ => ∃ c dx t rp kp T Kp rows, vs = [.ref c, .ref t, .ref rp, .ref kp] ∧ H c = some (.ins a.Copies dx []) ∧ TabAt K a.Rows H t T ∧ SqL K H rp (ixs rows) ∧ SqL K H kp (ixs Kp) ∧
  ∀ H' p q, H p = none → H q = none → (∀ x o, H x = some o → x ≠ c → H' x = some o) → CopAt K a H' c t p q T Kp rows → Q .non H'
theorem ok_Copies_init (T : Tx K mg a) : Fn P w K mg base 1 a.Copies_init (sp_Copies K a) := by
  refine fn_d T.F_Copies_init sc_Copies_init (fun _ _ _ _ _ _ us hl => match us, hl with | [_, _, _, _], _ => rfl) (fun vs H Q E h => ?_) fun cdv A outer s H vs Q E hr h => ?_
  · obtain ⟨c, dx, t, rp, kp, T, Kp, rows, rfl, _⟩ := h
    rfl
  · obtain ⟨c, dx, t, rp, kp, Tb, Kp, rows, rfl, hc, hT, hrp, hkp, q⟩ := h
    refine ⟨_, pss_cons (ps_fld (pv 0) (pv 1) rfl)
        (pss_cons (ps_fld (pv 0) (pe_callTy call_list_of (by rfl) T.b_list (by decide +kernel) (pa_cons (pv 2) pa_nil)) rfl)
        (pss_one (ps_fld (pv 0) (pe_callTy call_list_of (by rfl) T.b_list (by decide +kernel) (pa_cons (pv 3) pa_nil)) rfl))), ?_⟩
    refine ⟨.ref t, rfl, _, rfl, c, _, dx, _, rfl, hc, T.c_Copies, T.n_Copies_own_table, (by show 0 < 1000; decide), ?_⟩
    have o1 : ∀ x o, H x = some o → x ≠ c → upd H c (.ins a.Copies dx (putF "own_table" (.ref t) [])) x = some o := fun x o e n => by rw [upd_ne n]; exact e
    have hc1 : Odd H c := ⟨_, _, _, hc, rfl, rfl⟩
    have lst1 : ∀ {H' : Hp} {y : Addr} {xs : List V}, (∀ x o, H x = some o → x ≠ c → H' x = some o) → SqL K H y xs → SqL K H' y xs := fun {H' y xs} e h => by
      rcases h with (h | ⟨o, h⟩) | h
      · exact .inl (.inl (e _ _ h fun e => by rw [e, hc] at h; cases h))
      · exact .inl (.inr ⟨o, e _ _ h fun e => by rw [e, hc] at h; cases h⟩)
      · exact .inr h
    refine ⟨_, rfl, rp, _, rfl, .inl (lst1 o1 hrp), fun p hp => ?_⟩
    have ncp : c ≠ p := ne_of_none upd_same hp
    have hp0 : H p = none := by rw [upd_ne ncp.symm] at hp; exact hp
    refine ⟨_, rfl, c, _, dx, _, rfl, (by rw [upd_ne ncp, upd_same]), T.c_Copies, T.n_Copies_copied, (by show 1 < 1000; decide), ?_⟩
    have o2 : ∀ x o, H x = some o → x ≠ c → upd (upd (upd H c (.ins a.Copies dx (putF "own_table" (.ref t) []))) p (.lst (ixs rows))) c (.ins a.Copies dx (putF "copied" (.ref p) (putF "own_table" (.ref t) []))) x = some o := fun x o e n => by
      rw [upd_ne n, upd_ne (ne_of_none e hp0)]
      exact o1 x o e n
    refine ⟨_, rfl, kp, _, rfl, .inl (lst1 o2 hkp), fun q1 hq1 => ?_⟩
    have ncq : c ≠ q1 := ne_of_none upd_same hq1
    have hq2 := hq1
    rw [upd_ne ncq.symm] at hq2
    have npq : p ≠ q1 := ne_of_none upd_same hq2
    have hq0 : H q1 = none := by rw [upd_ne npq.symm, upd_ne ncq.symm] at hq2; exact hq2
    refine ⟨_, rfl, c, _, dx, _, rfl, (by rw [upd_ne ncq, upd_same]), T.c_Copies, T.n_Copies_ahead, (by show 2 < 1000; decide), ?_⟩
    have o3 : ∀ x o, H x = some o → x ≠ c → upd (upd (upd (upd (upd H c (.ins a.Copies dx (putF "own_table" (.ref t) []))) p (.lst (ixs rows))) c (.ins a.Copies dx (putF "copied" (.ref p) (putF "own_table" (.ref t) [])))) q1 (.lst (ixs Kp))) c (.ins a.Copies dx (putF "ahead" (.ref q1) (putF "copied" (.ref p) (putF "own_table" (.ref t) [])))) x = some o := fun x o e n => by
      rw [upd_ne n, upd_ne (ne_of_none e hq0)]
      exact o2 x o e n
    refine q _ p q1 hp0 hq0 o3 ⟨hT.odd hc1 o3, ⟨dx, upd_same⟩, ?_, ?_⟩
    · rw [upd_ne ncp.symm, upd_ne npq, upd_ne ncp.symm, upd_same]
    · rw [upd_ne ncq.symm, upd_same]
def sp_CopiesBase (K : PySem.W.Frag) (a : At) : Sp := fun vs H Q _ => ∃ cb dx c t p q lp T g Kp rows lot, vs = [.ref cb, .ref c, .ref lp] ∧ H cb = some (.ins a.CopiesBase dx []) ∧ CopAt K a H c t p q T Kp rows ∧ SqL K H lp (ixs lot) ∧ CopOk T g Kp rows ∧ LotOk T Kp rows lot ∧
  ∀ H' l, H l = none → (∀ x o, H x = some o → x ≠ cb → H' x = some o) → CbAt K a H' cb p l T Kp rows lot → Q .non H'
theorem ok_CopiesBase_init (T : Tx K mg a) : Fn P w K mg base 7 a.CopiesBase_init (sp_CopiesBase K a) := by
  refine fn_d T.F_CopiesBase_init sc_CopiesBase_init (fun _ _ _ _ _ _ us hl => match us, hl with | [_, _, _], _ => rfl) (fun vs H Q E h => ?_) fun cdv A outer s H vs Q E hr h => ?_
  · obtain ⟨cb, dx, c, t, p, q, lp, T, g, Kp, rows, lot, rfl, _⟩ := h
    rfl
  · obtain ⟨cb, dx, c, t, p, q, lp, Tb, g, Kp, rows, lot, rfl, hcb, hC, hlp, C, L, qq⟩ := h
    refine ⟨_, pss_cons (ps_fld (pv 0) (pe_fld (pv 1) rfl) rfl)
        (pss_cons (ps_fld (pv 0) (pe_dc (own := [("thing", 3)]) rfl sc_CopiesBase_init.nd (pi_list (pv 2)) (blkOk_by (N := ["self", "copies", "lot", "thing"]) (sc := defScope s_CopiesBase_init) (by decide +kernel)) (fun _ _ _ _ _ => (pg_name (i := 3) sc_CopiesBase_init.nd rfl (by first | exact Or.inl rfl | exact Or.inr rfl))) (fun _ _ _ _ _ => pts_nil) (fun _ _ _ _ _ => (pe_ix (ix_listK (K := K)) (pe_fldK (K := K) (pv 1) rfl) (pv 3) (fun _ _ => rfl))) (fun _ _ _ _ _ => (pv 3))) rfl)
        (pss_one (ps_fld (pv 0) (pe_meth (pe_fld (pv 1) rfl) T.c_Rows T.M_Rows_base_of (ok_Rows_base_of P w base T).ok (hr.mono (by decide)) (ok_Rows_base_of P w base T).b .nil pass0 (pa_cons (pe_lst (StX.pa_star (pe_fld (pv 1) rfl) (pa_starD (pe_fld (pv 0) rfl) pa_nil))) pa_nil)) rfl))), ?_⟩
    obtain ⟨hT, ⟨dc, hc⟩, hp, hq⟩ := id hC
    have ncc : c ≠ cb := fun e => by
      rw [e, hcb] at hc
      injection hc with hc
      injection hc with _ _ hc
      cases hc
    -- self.copied = copies.copied
    refine ⟨_, rfl, c, _, dc, _, _, rfl, hc, T.c_Copies, T.n_Copies_copied, rfl, _, rfl, cb, _, dx, _, rfl, hcb, T.c_CopiesBase, T.n_CopiesBase_copied, (by show 0 < 1000; decide), ?_⟩
    have hcb1 : Odd H cb := ⟨_, _, _, hcb, rfl, rfl⟩
    have lst1 : ∀ {H' : Hp} {y : Addr} {xs : List V}, (∀ x o, H x = some o → x ≠ cb → H' x = some o) → SqL K H y xs → SqL K H' y xs := fun {H' y xs} e h => by
      rcases h with (h | ⟨o, h⟩) | h
      · exact .inl (.inl (e _ _ h fun e => by rw [e, hcb] at h; cases h))
      · exact .inl (.inr ⟨o, e _ _ h fun e => by rw [e, hcb] at h; cases h⟩)
      · exact .inr h
    have o1 : ∀ x o, H x = some o → x ≠ cb → upd H cb (.ins a.CopiesBase dx (putF "copied" (.ref p) [])) x = some o := fun x o e n => by rw [upd_ne n]; exact e
    have npb : p ≠ cb := fun e => by rw [e, hcb] at hp; cases hp
    have nqb : q ≠ cb := fun e => by rw [e, hcb] at hq; cases hq
    have h1c := o1 _ _ hc ncc
    have h1p := o1 _ _ hp npb
    have h1l := lst1 o1 hlp
    refine ⟨_, rfl, lp, rfl, ⟨_, h1l⟩, fun D hD => ?_⟩
    have ncD : cb ≠ D := ne_of_none upd_same hD
    have hD0 : H D = none := by rw [upd_ne ncD.symm] at hD; exact hD
    have l5 : lot.length ≤ 5 := by
      have := L.five C
      rw [show (rowsOf (fr rows) Kp lot).length = Kp.length + lot.length from by unfold rowsOf; rw [List.length_append, List.length_map]] at this
      omega
    have lT : lot.filterMap (fun (s : Nat) => some (((Sum.inl ((fr rows s : Nat) : Int) : Key), V.int (s : Int)))) = tho rows lot := fm_some _ _
    have lx : (ixs lot).length = lot.length := List.length_map _
    refine dc_w (walk_list (xs := ixs lot)) (fun j => lot[j]?.bind fun s => some (((Sum.inl ((fr rows s : Nat) : Int) : Key), V.int (s : Int)))) hD (by rw [lx]; omega) ?_ (fun H5 s5 => same_lst s5 h1l) (fun j z H5 H6 hj s5 hy take skip => ?_) fun H5 s5 hD5 => ?_
    · rw [lx, range_fm lot fun s => some (((Sum.inl ((fr rows s : Nat) : Int) : Key), V.int (s : Int))), lT]
      unfold tho
      rw [List.map_map]
      have := castk_nodup (L.map_nd C)
      rw [List.map_map] at this
      exact this
    · obtain ⟨rfl, hz⟩ := hy
      obtain ⟨s, hs, rfl⟩ := ix_at hz
      have hsr := L.lt s (List.mem_of_getElem? hs)
      refine ⟨rfl, _, rfl, c, _, dc, _, _, rfl, s5 _ _ h1c, T.c_Copies, T.n_Copies_copied, rfl, _, rfl, p, _, _, _, rfl, rfl, SqL.of (s5 _ _ h1p), at_nat (at_map (fun (k : Nat) => V.int (k : Int)) (fr_at hsr)), _, rfl, take (Sum.inl ((fr rows s : Nat) : Int)) _ _ ?_ (Same.refl _)⟩
      rw [hs]
      rfl
    · rw [lx, range_fm lot fun s => some (((Sum.inl ((fr rows s : Nat) : Int) : Key), V.int (s : Int))), lT] at hD5
      have hcb5 := s5 _ _ (show upd H cb (.ins a.CopiesBase dx (putF "copied" (.ref p) [])) cb = _ from upd_same)
      refine ⟨_, rfl, cb, _, dx, _, rfl, hcb5, T.c_CopiesBase, T.n_CopiesBase_thing_of, (by show 1 < 1000; decide), ?_⟩
      have o2 : ∀ x o, H x = some o → x ≠ cb → upd H5 cb (.ins a.CopiesBase dx (putF "thing_of" (.ref D) (putF "copied" (.ref p) []))) x = some o := fun x o e n => by
        rw [upd_ne n]
        exact s5 _ _ (o1 x o e n)
      have hD6 : upd H5 cb (.ins a.CopiesBase dx (putF "thing_of" (.ref D) (putF "copied" (.ref p) []))) D = some (.dK (tho rows lot)) := by rw [upd_ne ncD.symm]; exact hD5
      have hcb6 : upd H5 cb (.ins a.CopiesBase dx (putF "thing_of" (.ref D) (putF "copied" (.ref p) []))) cb = some (.ins a.CopiesBase dx (putF "thing_of" (.ref D) (putF "copied" (.ref p) []))) := upd_same
      generalize upd H5 cb (.ins a.CopiesBase dx (putF "thing_of" (.ref D) (putF "copied" (.ref p) []))) = H6 at *
      obtain ⟨dt, ro, ras, ht, _⟩ := id (hT.odd hcb1 o2).ob
      refine ⟨_, rfl, c, _, dc, _, _, rfl, o2 _ _ hc ncc, T.c_Copies, T.n_Copies_own_table, rfl, t, dt, _, rfl, ht, rfl, ?_⟩
      refine ⟨_, rfl, c, _, dc, _, _, rfl, o2 _ _ hc ncc, T.c_Copies, T.n_Copies_ahead, rfl, q, _, rfl, .inr (SqL.of (o2 _ _ hq nqb)), _, rfl, cb, _, dx, _, _, rfl, hcb6, T.c_CopiesBase, T.n_CopiesBase_thing_of, rfl, D, _, rfl, .inl hD6, ?_⟩
      have el : ixs Kp ++ (((tho rows lot).map fun kv => kV kv.1) ++ []) = ixs (rowsOf (fr rows) Kp lot) := by
        rw [List.append_nil, tho_keys]
        unfold rowsOf ixs
        rw [List.map_append]
      have r5 := L.five C
      refine ⟨by rw [el, List.length_map]; exact Nat.le_of_lt (small1000 (by omega)), fun l1 hl1 => ?_⟩
      rw [el]
      have s7 := same_upd (o := .lst (ixs (rowsOf (fr rows) Kp lot))) hl1
      refine ⟨t, l1, Tb, rowsOf (fr rows) Kp lot, rfl, (hT.odd hcb1 o2).same s7, C.ok, SqL.of upd_same, L.rows_nd C, fun k hk => (L.rows_lt C k hk).1, r5, fun H8 b l S s8 nb nl hB el8 sl => ?_⟩
      have hcb8 := s8 _ _ (s7 _ _ hcb6)
      refine ⟨_, rfl, cb, _, dx, _, rfl, hcb8, T.c_CopiesBase, T.n_CopiesBase_base, (by show 2 < 1000; decide), ?_⟩
      have o8 : ∀ x o, H x = some o → x ≠ cb → upd H8 cb (.ins a.CopiesBase dx (putF "base" (.ref b) (putF "thing_of" (.ref D) (putF "copied" (.ref p) [])))) x = some o := fun x o e n => by
        rw [upd_ne n]
        exact s8 _ _ (s7 _ _ (o2 x o e n))
      refine qq _ l (Option.eq_none_iff_forall_not_mem.mpr fun o e => ?_) o8 ⟨dx, D, b, t, S, upd_same, o8 _ _ hp npb, by rw [upd_ne ncD.symm]; exact s8 _ _ (s7 _ _ hD6), hB.odd ⟨_, _, _, hcb8, rfl, rfl⟩ (fun x o e n => by rw [upd_ne n]; exact e), el8, sl⟩
      have e : H l = some o := e
      by_cases nx : l = cb
      · rw [nx, s7 _ _ hcb6] at nl
        cases nl
      · rw [s7 _ _ (o2 l o e nx)] at nl
        cases nl
def sp_cbase_of (K : PySem.W.Frag) (a : At) : Sp := fun vs H Q _ => ∃ c t p q lp T g Kp rows lot, vs = [.ref c, .ref lp] ∧ CopAt K a H c t p q T Kp rows ∧ SqL K H lp (ixs lot) ∧ CopOk T g Kp rows ∧ LotOk T Kp rows lot ∧
  ∀ H' cb l, Same H H' → H cb = none → H l = none → CbAt K a H' cb p l T Kp rows lot → Q (.ref cb) H'
theorem ok_Copies_base_of (T : Tx K mg a) : Fn P w K mg base 9 a.Copies_base_of (sp_cbase_of K a) := by
  refine fn_d T.F_Copies_base_of sc_Copies_base_of (fun _ _ _ _ _ _ us hl => match us, hl with | [_, _], _ => rfl) (fun vs H Q E h => ?_) fun cdv A outer s H vs Q E hr h => ?_
  · obtain ⟨c, t, p, q, lp, T, g, Kp, rows, lot, rfl, _⟩ := h
    rfl
  · obtain ⟨c, t, p, q, lp, Tb, g, Kp, rows, lot, rfl, hC, hlp, C, L, qq⟩ := h
    refine ⟨_, pss_one (ps_ret (pe_make T.k_CopiesBase (ok_CopiesBase_init P w base T).ok (hr.mono (by decide)) (by rfl) T.gC_CopiesBase (ok_CopiesBase_init P w base T).b .nil pass0 (pa_cons (pv 0) (pa_cons (pv 1) pa_nil)))), ?_⟩
    refine ⟨_, rfl, _, rfl, fun cb dx hn hdn hne => ?_⟩
    have n0 : Same H (upd (upd H dx (.own cb)) cb (.ins a.CopiesBase dx [])) := (same_upd hdn).trans (same_upd (by rw [upd_ne hne.symm]; exact hn))
    refine ⟨cb, dx, c, t, p, q, lp, Tb, g, Kp, rows, lot, rfl, upd_same, hC.same n0, same_lst n0 hlp, C, L, fun H1 l nl old hB => ⟨rfl, ?_⟩⟩
    exact qq _ cb l (fun x o e => old _ _ (n0 _ _ e) (ne_of_none e hn)) hn (n0.free nl) hB
def sp_crel (K : PySem.W.Frag) (a : At) : Sp := fun vs H Q _ => ∃ cb p l T g Kp rows lot x, vs = [.ref cb, .int (x : Nat)] ∧ CbAt K a H cb p l T Kp rows lot ∧ CopOk T g Kp rows ∧ LotOk T Kp rows lot ∧ x < rows.length ∧ x ∉ lot ∧
  (∀ H', Same H H' → ¬ plC T Kp rows (fun s => s ∈ lot) x → Q .non H') ∧
  ∀ H' d Y, Same H H' → H d = none → H' d = some (.dK (mkd Y fun _ => 1)) → Stp (plC T Kp rows) (fun s => s ∈ lot) x Y → Q (.ref d) H'
theorem ok_CopiesBase_relation (T : Tx K mg a) : Fn P w K mg base 6 a.CopiesBase_relation (sp_crel K a) := by
  refine fn_d T.F_CopiesBase_relation sc_CopiesBase_relation (fun _ _ _ _ _ _ us hl => match us, hl with | [_, _], _ => rfl) (fun vs H Q E h => ?_) fun cdv A outer s H vs Q E hr h => ?_
  · obtain ⟨cb, p, l, T, g, Kp, rows, lot, x, rfl, _⟩ := h
    rfl
  · obtain ⟨cb, p, l, Tb, g, Kp, rows, lot, x, rfl, hB, C, L, hx, xl, qn, qs⟩ := h
    have hu := hu_of hr
    refine ⟨_, pss_cons (ps_set (i := 2) sc_CopiesBase_relation.nd rfl (by first | exact Or.inl rfl | exact Or.inr rfl) (pe_ix ix_list (pe_fld (pv 0) rfl) (pv 1) (fun _ _ => rfl)))
        (pss_cons (ps_if (pt_cmp (pc_din hu (pv 2) (pe_fld (pv 0) rfl))) (pss_one (ps_ret (pe_disp (pps_cons (pe_dget hu (pe_fld (pv 0) rfl) (pv 2) (fun _ _ => rfl)) pe_int pps_nil) (by rfl) (by rfl) (fun z => by cases z) (by decide)))) pss_nil)
        (pss_cons (ps_set (i := 3) sc_CopiesBase_relation.nd rfl (by first | exact Or.inl rfl | exact Or.inr rfl) (pe_meth (pe_fld (pv 0) rfl) T.c_Base T.M_Base_relation (ok_Base_relation P w base T).ok (hr.mono (by decide)) (ok_Base_relation P w base T).b .nil pass0 (pa_cons (pv 2) pa_nil)))
        (pss_cons (ps_if (pt_cmpR op_isN (pv 3) pe_non (nomark _)) (pss_one (ps_ret pe_non)) pss_nil)
        (pss_one (ps_ret (pe_lock (pe_dc (own := [("other", 4)]) rfl sc_CopiesBase_relation.nd (pi_keys (pv 3)) (blkOk_by (N := ["self", "thing", "row", "relation", "other"]) (sc := defScope s_CopiesBase_relation) (by decide +kernel)) (fun _ _ _ _ _ => (pg_name (i := 4) sc_CopiesBase_relation.nd rfl (by first | exact Or.inl rfl | exact Or.inr rfl))) (fun _ _ _ _ _ => (pts_one (pt_cmp (pc_din hu (pv 4) (pe_fldK (K := K) (pv 0) rfl))))) (fun _ _ _ _ _ => (pe_dget hu (pe_fldK (K := K) (pv 0) rfl) (pv 4) (fun _ _ => rfl))) (fun _ _ _ _ _ => pe_int)))))))), ?_⟩
    obtain ⟨dx, d, b, t, S, hcb, hp, hd, hBa, el, s5⟩ := id hB
    obtain ⟨db, hb⟩ := hBa.ob
    have hcl := plC_clo C
    have hix := at_nat (at_map (fun (k : Nat) => V.int (k : Int)) (fr_at hx))
    have gd := DGet.k (k := (Sum.inl ((fr rows x : Nat) : Int) : Key)) hd
    rw [tho_val] at gd
    refine ⟨_, rfl, cb, _, dx, _, _, rfl, hcb, T.c_CopiesBase, T.n_CopiesBase_copied, rfl, _, rfl, p, _, _, _, rfl, rfl, SqL.of hp, hix, ?_⟩
    refine ⟨_, rfl, _, rfl, cb, _, dx, _, _, rfl, hcb, T.c_CopiesBase, T.n_CopiesBase_thing_of, rfl, d, _, rfl, gd, _, rfl, ?_⟩
    cases hth : thg rows lot (fr rows x) with
    | some s =>
      obtain ⟨hs, es⟩ := thg_some hth
      rw [hth] at gd
      refine itT rfl ?_
      intro D hD
      have n1 := same_upd (o := .dK []) hD
      refine ⟨_, rfl, cb, _, dx, _, _, rfl, n1 _ _ hcb, T.c_CopiesBase, T.n_CopiesBase_thing_of, rfl, _, rfl, d, V.int (s : Int), rfl, dget_tho (n1 _ _ hd) hth, upd_same, [(Sum.inl (s : Int), .int 1)], rfl, Nat.le_of_ble_eq_true rfl, ?_⟩
      refine qs _ D [s] (same_chg n1 hD) hD upd_same ?_
      exact stp_copy (fld_mem C.ok.fp) L.nd L.ind xl hs es
    | none =>
      refine itF rfl ?_
      have hno := thg_none hth
      have xr : fr rows x ∉ rowsOf (fr rows) Kp lot := fun q => by
        rcases List.mem_append.mp q with q | q
        · exact (C.rl _ (fr_mem hx)).2.2 q
        · obtain ⟨s, hs, e⟩ := List.mem_map.mp q
          exact hno s hs e
      have bp : BasePre K a H b t l Tb (rowsOf (fr rows) Kp lot) S (fr rows x) := ⟨hBa, C.ok, el, s5, fun k hk => (L.rows_lt C k hk).1, (C.rl _ (fr_mem hx)).1, xr⟩
      refine ⟨_, rfl, cb, _, dx, _, _, rfl, hcb, T.c_CopiesBase, T.n_CopiesBase_base, rfl, b, _, _, rfl, hb, rfl, _, rfl, b, t, l, Tb, rowsOf (fr rows) Kp lot, S, fr rows x, rfl, bp, fun H1 s1 nc => ?_, fun H1 r Z c s1 nr gr R => ?_⟩
      · refine ⟨_, rfl, rfl, _, rfl, itT rfl ?_⟩
        exact qn _ s1 fun q => nc (pull_rows.mp q)
      · refine ⟨_, rfl, rfl, _, rfl, itF rfl ?_⟩
        have rlen : Z.length ≤ 6 := by
          have := few R.nd (n := Tb.n) fun k hk => by
            rcases R.sub k hk with q | q
            · exact (L.rows_lt C k q).1
            · exact q ▸ (C.rl _ (fr_mem hx)).1
          exact Nat.le_trans this C.ok.n6
        refine ⟨r, _, gr, trivial, fun od => ?_⟩
        refine ⟨_, rfl, r, od, rfl, .inl ⟨_, upd_same, fun D hD => ?_⟩⟩
        have nrD : r ≠ D := ne_of_none upd_same hD
        have hD0 : H1 D = none := by rw [upd_ne nrD.symm] at hD; exact hD
        have lz : (mkd Z c).length = Z.length := by unfold mkd; rw [List.length_map]
        have lY : Z.filterMap (fun k => (thg rows lot k).map fun (s : Nat) => ((Sum.inl (s : Int) : Key), V.int 1)) = mkd (Z.filterMap (thg rows lot)) fun _ => 1 := by
          unfold mkd
          rw [List.map_filterMap]
        have nY : (Z.filterMap (thg rows lot)).Nodup := thg_nd R.nd
        have lowr : ∀ {H5 : Hp} {y : Addr} {o : HO}, Same (upd H1 r (.frz od (.dK (mkd Z c)))) H5 → H y = some o → H5 y = some o := fun {H5 y o} s5 e => s5 _ _ (by rw [upd_ne (ne_of_none e nr)]; exact s1 _ _ e)
        refine dc_w walk_keys (fun j => Z[j]?.bind fun k => (thg rows lot k).map fun (s : Nat) => ((Sum.inl (s : Int) : Key), V.int 1)) hD (by rw [lz]; omega) ?_ (fun H6 s6 => s6 _ _ upd_same) (fun i y H6 H7 hi s6 hy take skip => ?_) fun H6 s6 hd6 => ?_
        · rw [lz, range_fm Z fun k => (thg rows lot k).map fun (s : Nat) => ((Sum.inl (s : Int) : Key), V.int 1), lY]
          unfold mkd
          rw [List.map_map]
          exact castk_nodup nY
        · obtain ⟨rfl, k, v, hkv, rfl⟩ := hy
          obtain ⟨k, hk, rfl, rfl⟩ := mkd_at hkv
          have gd6 := DGet.k (k := (Sum.inl (k : Int) : Key)) (lowr s6 hd)
          rw [tho_val] at gd6
          refine ⟨rfl, _, rfl, _, rfl, cb, _, dx, _, _, rfl, lowr s6 hcb, T.c_CopiesBase, T.n_CopiesBase_thing_of, rfl, d, _, rfl, gd6, _, rfl, ?_⟩
          cases hth : thg rows lot k with
          | none => exact itF rfl (skip _ (by rw [hk]; show Option.map _ (thg rows lot k) = _; rw [hth]; rfl) (Same.refl _))
          | some s =>
            rw [hth] at gd6
            refine itT rfl ?_
            refine ⟨_, rfl, cb, _, dx, _, _, rfl, lowr s6 hcb, T.c_CopiesBase, T.n_CopiesBase_thing_of, rfl, _, rfl, d, V.int (s : Int), rfl, dget_tho (lowr s6 hd) hth, ?_⟩
            exact take (Sum.inl (s : Int)) _ _ (by rw [hk]; show Option.map _ (thg rows lot k) = _; rw [hth]; rfl) (Same.refl _)
        · rw [lz, range_fm Z fun k => (thg rows lot k).map fun (s : Nat) => ((Sum.inl (s : Int) : Key), V.int 1), lY] at hd6
          refine ⟨s6 _ _ upd_same, qs _ D _ (s1.trans (lock_same gr s6)) (s1.free hD0) (by rw [upd_ne nrD.symm]; exact hd6) ?_⟩
          refine stp_rel (fld_mem C.ok.fp) L.ind xl R (fun k hk => ?_) nY (fun y => ?_) hno
          · rcases R.sub k hk with q | q
            · exact (L.rows_lt C k q).1
            · exact q ▸ (C.rl _ (fr_mem hx)).1
          · rw [List.mem_filterMap]
            constructor
            · rintro ⟨k, hk, e⟩
              obtain ⟨h1, h2⟩ := thg_some e
              exact ⟨h1, h2 ▸ hk⟩
            · rintro ⟨h1, h2⟩
              refine ⟨fr rows y, h2, ?_⟩
              cases e : thg rows lot (fr rows y) with
              | none => exact absurd rfl (thg_none e y h1)
              | some s =>
                obtain ⟨h3, h4⟩ := thg_some e
                rw [L.inj C h3 h1 h4]
end
end FL
/-! Places. -/
set_option Elab.async false
set_option linter.all false
set_option maxRecDepth 1000000
set_option maxHeartbeats 8000000
namespace FL
open PySem PySem.Spec PyProof.Rows L2
section
variable {J : It} {n : Nat} {G : Hp → Prop} {Y : Nat → Hp → V → Hp → Prop}
/-- a list comprehension of new objects -/
def LcRefs (H1 : Hp) (D : Addr) (R : Nat → Addr → Hp → Prop) (i : Nat) (H : Hp) : Prop := Same H1 H ∧ ∃ cs : List Addr, H D = some (.lst (cs.map V.ref)) ∧ cs.length = i ∧ cs.Nodup ∧ ∀ j c, cs[j]? = some c → R j c H ∧ H1 c = none ∧ c ≠ D ∧ ∃ o, H c = some o
theorem lc_refs (w : Walk J n G Y) {g : TG} {te : TE} {vs : List Nat} {σ : L2.St} {H1 : Hp} {D : Addr} {Qd : Hp → Prop} (R : Nat → Addr → Hp → Prop) (nD : H1 D = none) (hn : n ≤ 100000) (hG : ∀ H, Same H1 H → G H)
    (hR : ∀ j c H H' (cs : List Addr), R j c H → c ≠ D → H D = some (.lst (cs.map V.ref)) → (∀ b o, b ≠ D → H b = some o → H' b = some o) → R j c H')
    (hs : ∀ i x H H', i < n → Same H1 H → Y i H x H' → (∃ cs : List Addr, H D = some (.lst (cs.map V.ref))) → (∀ c H4, R i c H4 → H c = none → (∃ o, H4 c = some o) → Same H H4 → ∃ acc, H4 D = some (.lst acc) ∧ acc.length < sizeLine ∧ LcRefs H1 D R (i + 1) (upd H4 D (.lst (acc ++ [.ref c])))) →
      g x (wipe σ vs) H' fun σ2 H2 => wipe σ2 vs = wipe σ vs ∧ te σ2 H2 fun y H4 => ∃ acc, H4 D = some (.lst acc) ∧ acc.length < sizeLine ∧ LcRefs H1 D R (i + 1) (upd H4 D (.lst (acc ++ [y]))))
    (hd : ∀ H (cs : List Addr), Same H1 H → H D = some (.lst (cs.map V.ref)) → cs.length = n → cs.Nodup → (∀ j c, cs[j]? = some c → R j c H ∧ H1 c = none ∧ c ≠ D) → Qd H) :
    ∃ W : Nat → Nat → Hp → Prop, (∃ m, W 0 m (upd H1 D (.lst []))) ∧ ∀ i m H, W i m H →
      (J.stop i H ∧ Qd H) ∨ (J.go i H ∧ ∃ Nx : Hp → Prop, (∀ H', Nx H' → ∃ m', m' < m ∧ W (i + 1) m' H') ∧ ∀ x H', J.yld i H x H' → g x (wipe σ vs) H' fun σ2 H2 => wipe σ2 vs = wipe σ vs ∧ tYes σ2 H2 fun b H3 =>
        if b = true then te σ2 H3 fun y H4 => ∃ acc, H4 D = some (.lst acc) ∧ acc.length < sizeLine ∧ Nx (upd H4 D (.lst (acc ++ [y]))) else Nx H3) := by
  refine lc_it w (LcRefs H1 D R) ⟨same_upd nD, [], upd_same, rfl, List.nodup_nil, fun j y h => by simp at h⟩ (fun i H _ p => hG H p.1) (fun i x H H' hi p y => hs i x H H' hi p.1 y ⟨_, p.2.choose_spec.1⟩ fun c H4 hr hc ho s => ?_) fun H p => ?_
  · obtain ⟨p1, cs, hD, hl, nd, hr'⟩ := p
    have oth : ∀ b o, b ≠ D → H4 b = some o → upd H4 D (.lst (cs.map V.ref ++ [.ref c])) b = some o := fun b o hb e => by rw [upd_ne hb]; exact e
    have ncD : c ≠ D := fun e => by rw [e, hD] at hc; cases hc
    have e1 : cs.map V.ref ++ [.ref c] = (cs ++ [c]).map V.ref := by rw [List.map_append]; rfl
    refine ⟨_, s _ _ hD, ?_, same_chg (p1.trans s) nD, cs ++ [c], by rw [upd_same, e1], by rw [List.length_append, hl]; rfl, ?_, fun j z hz => ?_⟩
    · rw [List.length_map, hl]; exact Nat.lt_of_lt_of_le hi (Nat.le_trans hn (by decide))
    · refine List.nodup_append.mpr ⟨nd, List.nodup_cons.mpr ⟨by simp, List.nodup_nil⟩, fun x hx y hy e => ?_⟩
      rw [List.mem_singleton] at hy
      subst hy
      subst e
      obtain ⟨j, hj⟩ := List.getElem?_of_mem hx
      obtain ⟨_, _, _, o, ho⟩ := hr' j x hj
      rw [hc] at ho
      cases ho
    · by_cases hj : j < cs.length
      · rw [List.getElem?_append_left hj] at hz
        obtain ⟨r1, r2, r3, o, ho2⟩ := hr' j z hz
        exact ⟨hR j z H _ cs r1 r3 hD fun b o hb e => oth b o hb (s b o e), r2, r3, o, oth z o r3 (s z o ho2)⟩
      · rw [List.getElem?_append_right (by omega)] at hz
        have hj' : j - cs.length = 0 := Nat.eq_zero_of_not_pos fun hp => by
          rw [List.getElem?_eq_none (by show 1 ≤ _; omega)] at hz
          cases hz
        rw [hj'] at hz
        have e : c = z := Option.some.inj hz
        have ej : j = i := by omega
        subst e ej
        obtain ⟨o, ho⟩ := ho
        exact ⟨hR _ _ H4 _ cs hr ncD (s _ _ hD) oth, p1.free hc, ncD, o, oth c o ncD ho⟩
  · obtain ⟨p1, cs, hD, hl, nd, hr⟩ := p
    exact hd H cs p1 hD hl nd fun j c h => ⟨(hr j c h).1, (hr j c h).2.1, (hr j c h).2.2.1⟩
/-- a dict comprehension by an invariant -/
theorem dc_it (w : Walk J n G Y) {g : TG} {tt : TT} {tk tv : TE} {vs : List Nat} {σ : L2.St} {H1 : Hp} {D : Addr} {Qd : Hp → Prop} (Pv : Nat → Hp → Prop) (h0 : Pv 0 (upd H1 D (.dK []))) (hG : ∀ i H, i ≤ n → Pv i H → G H)
    (hs : ∀ i x H H', i < n → Pv i H → Y i H x H' → g x (wipe σ vs) H' fun σ2 H2 => wipe σ2 vs = wipe σ vs ∧ tt σ2 H2 fun b H3 =>
      if b = true then tk σ2 H3 fun y H4 => tv σ2 H4 fun z H5 => ∃ kvs k, y = kV k ∧ H5 D = some (.dK kvs) ∧ kvs.length < sizeLine ∧ Pv (i + 1) (upd H5 D (.dK (putK kvs k z))) else Pv (i + 1) H3) (hd : ∀ H, Pv n H → Qd H) :
    ∃ W : Nat → Nat → Hp → Prop, (∃ m, W 0 m (upd H1 D (.dK []))) ∧ ∀ i m H, W i m H →
      (J.stop i H ∧ Qd H) ∨ (J.go i H ∧ ∃ Nx : Hp → Prop, (∀ H', Nx H' → ∃ m', m' < m ∧ W (i + 1) m' H') ∧ ∀ x H', J.yld i H x H' → g x (wipe σ vs) H' fun σ2 H2 => wipe σ2 vs = wipe σ vs ∧ tt σ2 H2 fun b H3 =>
        if b = true then tk σ2 H3 fun y H4 => tv σ2 H4 fun z H5 => ∃ kvs k, y = kV k ∧ H5 D = some (.dK kvs) ∧ kvs.length < sizeLine ∧ Nx (upd H5 D (.dK (putK kvs k z))) else Nx H3) := by
  refine ⟨fun i m H => m = n - i ∧ i ≤ n ∧ Pv i H, ⟨n, by simp, Nat.zero_le _, h0⟩, ?_⟩
  rintro i m H ⟨rfl, hi, p⟩
  have q := hG i H hi p
  by_cases hlt : i < n
  · exact .inr ⟨w.goes i H hlt q, Pv (i + 1), fun H' p' => ⟨n - (i + 1), by omega, rfl, hlt, p'⟩, fun x H' y => hs i x H H' hlt p (w.yields i H x H' hlt q y)⟩
  · have e : i = n := by omega
    subst e
    exact .inl ⟨w.stops H q, hd H p⟩
end
theorem in_ixs (x : Nat) (l : List Nat) : inV (.int (x : Int)) (ixs l) = decide (x ∈ l) := by
  show (ixs l).any (fun y => eqV y (.int (x : Int))) = _
  rw [List.any_map, Bool.eq_iff_iff, List.any_eq_true, decide_eq_true_iff]
  constructor
  · rintro ⟨k, hk, e⟩
    have e : ((k : Int) == (x : Int)) = true := e
    have : k = x := by have := eq_of_beq e; omega
    exact this ▸ hk
  · exact fun h => ⟨x, h, beq_self_eq_true (x : Int)⟩
theorem flat_ixs (l : List Nat) : (ixs l).all flatV = true := by
  rw [List.all_map, List.all_eq_true]
  intro x _
  rfl
/-! ### Places -/
structure PlAt (K : PySem.W.Frag) (a : At) (H : Hp) (pl kl A B c t p q : Addr) (T : Tab) (Kp rows la lb : List Nat) : Prop where
  ob : ∃ dx tl sl, H pl = some (.ins a.Places dx [("tables", .ref tl), ("sizes", .ref sl), ("kept", .ref kl)]) ∧ H tl = some (.lst [.ref c, .ref c]) ∧ H sl = some (.lst [.int (rows.length : Nat), .int (rows.length : Nat)]) ∧ sl ≠ A ∧ sl ≠ B
  hk : H kl = some (.lst [.ref A, .ref B])
  hA : H A = some (.lst (ixs la))
  hB : H B = some (.lst (ixs lb))
  ab : A ≠ B
  an : A ≠ p ∧ A ≠ q ∧ B ≠ p ∧ B ≠ q
  cop : CopAt K a H c t p q T Kp rows
section
variable {K : PySem.W.Frag} {a : At} {H H' : Hp} {pl kl A B c t p q : Addr} {T : Tab} {Kp rows la lb : List Nat}
theorem PlAt.same (h : PlAt K a H pl kl A B c t p q T Kp rows la lb) (e : Same H H') : PlAt K a H' pl kl A B c t p q T Kp rows la lb :=
  ⟨let ⟨dx, tl, sl, h1, h2, h3, h4⟩ := h.ob; ⟨dx, tl, sl, e _ _ h1, e _ _ h2, e _ _ h3, h4⟩, e _ _ h.hk, e _ _ h.hA, e _ _ h.hB, h.ab, h.an, h.cop.same e⟩
/-- both lots written anew -/
theorem PlAt.chg (h : PlAt K a H pl kl A B c t p q T Kp rows la lb) (e : ∀ x o, H x = some o → x ≠ A → x ≠ B → H' x = some o) {la' lb' : List Nat} (hA : H' A = some (.lst (ixs la'))) (hB : H' B = some (.lst (ixs lb'))) : PlAt K a H' pl kl A B c t p q T Kp rows la' lb' := by
  obtain ⟨dx, tl, sl, h1, h2, h3, h4, h5⟩ := h.ob
  have nr : ∀ {x : Addr} {l : List Nat} {xs : List V}, H x = some (.lst (ixs l)) → ∀ {y : Addr} {b : Addr}, H y = some (.lst (.ref b :: xs)) → y ≠ x := fun {x l xs} hx {y b} hy q => by
    rw [q, hx] at hy
    cases l with
    | nil => injection hy with hy; injection hy with hy; cases hy
    | cons z l => injection hy with hy; injection hy with hy; injection hy with hy; cases hy
  refine ⟨⟨dx, tl, sl, e _ _ h1 (fun q => ?_) (fun q => ?_), e _ _ h2 (nr h.hA h2) (nr h.hB h2), e _ _ h3 h4 h5, h4, h5⟩, e _ _ h.hk (nr h.hA h.hk) (nr h.hB h.hk), hA, hB, h.ab, h.an, ?_⟩
  · rw [q, h.hA] at h1; cases h1
  · rw [q, h.hB] at h1; cases h1
  · obtain ⟨g1, ⟨dc, g2⟩, g3, g4⟩ := h.cop
    refine ⟨?_, ⟨dc, e _ _ g2 (fun q => ?_) fun q => ?_⟩, e _ _ g3 h.an.1.symm h.an.2.2.1.symm, e _ _ g4 h.an.2.1.symm h.an.2.2.2.symm⟩
    · refine TabAt.but (H := fun x => if x = B then H B else H' x) (l := B) (xs := ixs lb) (TabAt.but g1 h.hA fun x o hx n => ?_) (by show (if B = B then H B else H' B) = _; rw [if_pos rfl, h.hB]) fun x o hx n => ?_
      · show (if x = B then H B else H' x) = some o
        by_cases e1 : x = B
        · rw [if_pos e1, ← e1, hx]
        · rw [if_neg e1]; exact e _ _ hx n e1
      · have hx : (if x = B then H B else H' x) = some o := hx
        rwa [if_neg n] at hx
    · rw [q, h.hA] at g2; cases g2
    · rw [q, h.hB] at g2; cases g2
end
section
variable (P : Program) (w : World) {K : PySem.W.Frag} {mg : Str → Option Value} (base : Heap) {a : At}
def sp_Places (K : PySem.W.Frag) (a : At) : Sp := fun vs H Q _ => ∃ pl dx tl sl ll X0 Y0 c t p q T Kp rows la lb, vs = [.ref pl, .ref tl, .ref sl, .ref ll] ∧ H pl = some (.ins a.Places dx []) ∧ H tl = some (.lst [.ref c, .ref c]) ∧ H sl = some (.lst [.int (rows.length : Nat), .int (rows.length : Nat)]) ∧
  H ll = some (.lst [.ref X0, .ref Y0]) ∧ H X0 = some (.lst (ixs la)) ∧ H Y0 = some (.lst (ixs lb)) ∧ CopAt K a H c t p q T Kp rows ∧
  ∀ H' kl A B, H A = none → H B = none → (∀ x o, H x = some o → x ≠ pl → H' x = some o) → PlAt K a H' pl kl A B c t p q T Kp rows la lb → Q .non H'
theorem ok_Places_init (T : Tx K mg a) : Fn P w K mg base 1 a.Places_init (sp_Places K a) := by
  refine fn_d T.F_Places_init sc_Places_init (fun _ _ _ _ _ _ us hl => match us, hl with | [_, _, _, _], _ => rfl) (fun vs H Q E h => ?_) fun cdv A outer s H vs Q E hr h => ?_
  · obtain ⟨pl, dx, tl, sl, ll, X0, Y0, c, t, p, q, T, Kp, rows, la, lb, rfl, _⟩ := h
    rfl
  · obtain ⟨pl, dx, tl, sl, ll, X0, Y0, c, t, p, q, Tb, Kp, rows, la, lb, rfl, hpl, htl, hsl, hll, hX, hY, hC, qq⟩ := h
    refine ⟨_, pss_cons (ps_fld (pv 0) (pv 1) rfl)
        (pss_cons (ps_fld (pv 0) (pv 2) rfl)
        (pss_one (ps_fld (pv 0) (pe_lc (own := [("lot", 4)]) rfl sc_Places_init.nd (pi_list (pv 3)) (blkOk_by (N := ["self", "tables", "sizes", "lots", "lot"]) (sc := defScope s_Places_init) (by decide +kernel)) (fun _ _ _ _ _ => (pg_name (i := 4) sc_Places_init.nd rfl (by first | exact Or.inl rfl | exact Or.inr rfl))) (fun _ _ _ _ _ => pts_nil) (fun _ _ _ _ _ => (pe_callTy (call_list_ofK (K := K)) (by rfl) T.b_list (by decide +kernel) (pa_cons (pv 4) pa_nil)))) rfl))), ?_⟩
    have hop : Odd H pl := ⟨_, _, _, hpl, rfl, rfl⟩
    refine ⟨.ref tl, rfl, _, rfl, pl, _, dx, _, rfl, hpl, T.c_Places, T.n_Places_tables, (by show 0 < 1000; decide), ?_⟩
    refine ⟨.ref sl, rfl, _, rfl, pl, _, dx, _, rfl, upd_same, T.c_Places, T.n_Places_sizes, (by show 1 < 1000; decide), ?_⟩
    rw [upd_upd]
    have o1 : ∀ x o, H x = some o → x ≠ pl → upd H pl (.ins a.Places dx (putF "sizes" (.ref sl) (putF "tables" (.ref tl) []))) x = some o := fun x o e n => by rw [upd_ne n]; exact e
    have npl : pl ≠ ll := fun e => by rw [← e, hpl] at hll; cases hll
    have npx : pl ≠ X0 := fun e => by rw [← e, hpl] at hX; cases hX
    have npy : pl ≠ Y0 := fun e => by rw [← e, hpl] at hY; cases hY
    have npt : pl ≠ tl := fun e => by rw [← e, hpl] at htl; cases htl
    have nps : pl ≠ sl := fun e => by rw [← e, hpl] at hsl; cases hsl
    have h1l := o1 _ _ hll npl.symm
    have h1x := o1 _ _ hX npx.symm
    have h1y := o1 _ _ hY npy.symm
    have h1pl : upd H pl (.ins a.Places dx (putF "sizes" (.ref sl) (putF "tables" (.ref tl) []))) pl = some (.ins a.Places dx (putF "sizes" (.ref sl) (putF "tables" (.ref tl) []))) := upd_same
    generalize upd H pl (.ins a.Places dx (putF "sizes" (.ref sl) (putF "tables" (.ref tl) []))) = H1 at *
    refine ⟨_, rfl, ll, rfl, ⟨_, SqL.of h1l⟩, fun D hD => ?_⟩
    refine lc_refs (walk_list (xs := [.ref X0, .ref Y0])) (fun j c H => H c = some (.lst (ixs (two la lb j)))) hD (Nat.le_of_ble_eq_true rfl) (fun H5 s5 => SqL.of (s5 _ _ h1l)) (fun j c H H' cs h n _ e => e _ _ n h) (fun j z H5 H6 hj s5 hy _ take => ?_) fun H5 cs s5 hD5 hl nd hcs => ?_
    · obtain ⟨rfl, hz⟩ := hy
      match j, hj, hz with
      | 0, _, hz =>
        cases hz
        exact ⟨rfl, _, rfl, X0, _, rfl, .inl (SqL.of (s5 _ _ h1x)), fun l hl => take l _ upd_same hl ⟨_, upd_same⟩ (same_upd hl)⟩
      | 1, _, hz =>
        cases hz
        exact ⟨rfl, _, rfl, Y0, _, rfl, .inl (SqL.of (s5 _ _ h1y)), fun l hl => take l _ upd_same hl ⟨_, upd_same⟩ (same_upd hl)⟩
    · match cs, hl with
      | [A1, B1], _ =>
        obtain ⟨a1, a2, a3⟩ := hcs 0 A1 rfl
        obtain ⟨b1, b2, b3⟩ := hcs 1 B1 rfl
        have ab : A1 ≠ B1 := by
          have := (List.nodup_cons.mp nd).1
          exact fun e => this (by rw [e]; exact List.mem_singleton.mpr rfl)
        have s5pl := s5 _ _ h1pl
        refine ⟨_, rfl, pl, _, dx, _, rfl, s5pl, T.c_Places, T.n_Places_kept, (by show 2 < 1000; decide), ?_⟩
        have o2 : ∀ x o, H x = some o → x ≠ pl → upd H5 pl (.ins a.Places dx (putF "kept" (.ref D) (putF "sizes" (.ref sl) (putF "tables" (.ref tl) [])))) x = some o := fun x o e n => by
          rw [upd_ne n]
          exact s5 _ _ (o1 x o e n)
        have npA : pl ≠ A1 := fun e => by rw [← e, h1pl] at a2; cases a2
        have npB : pl ≠ B1 := fun e => by rw [← e, h1pl] at b2; cases b2
        have npD : pl ≠ D := ne_of_none h1pl hD
        have new : ∀ {y : Addr}, H1 y = none → H y = none := fun {y} h => Option.eq_none_iff_forall_not_mem.mpr fun o e => by
          have e : H y = some o := e
          by_cases z : y = pl
          · rw [z, h1pl] at h; cases h
          · rw [o1 y o e z] at h; cases h
        have hp := hC.hp
        have hq := hC.hq
        refine qq _ D A1 B1 (new a2) (new b2) o2 ⟨⟨dx, tl, sl, upd_same, o2 _ _ htl npt.symm, o2 _ _ hsl nps.symm, ne_of_none hsl (new a2), ne_of_none hsl (new b2)⟩, by rw [upd_ne npD.symm]; exact hD5, by rw [upd_ne npA.symm]; exact a1, by rw [upd_ne npB.symm]; exact b1, ab,
          ⟨(ne_of_none hp (new a2)).symm, (ne_of_none hq (new a2)).symm, (ne_of_none hp (new b2)).symm, (ne_of_none hq (new b2)).symm⟩, ?_⟩
        obtain ⟨g1, ⟨dc, g2⟩, g3, g4⟩ := hC
        refine ⟨g1.odd hop o2, ⟨dc, o2 _ _ g2 fun e => ?_⟩, o2 _ _ g3 fun e => ?_, o2 _ _ g4 fun e => ?_⟩
        · rw [e, hpl] at g2
          injection g2 with g2
          injection g2 with _ _ g2
          cases g2
        · rw [e, hpl] at g3; cases g3
        · rw [e, hpl] at g4; cases g4
def sp_steps_to (K : PySem.W.Frag) (a : At) : Sp := fun vs H Q _ => ∃ pl kl A B c t p q T g Kp rows la lb bs c0 c1 l0 l1, ∃ (n x : Nat), vs = [.ref pl, .int (n : Int), .ref bs, .int (x : Int)] ∧ PlAt K a H pl kl A B c t p q T Kp rows la lb ∧ CopOk T g Kp rows ∧ (∀ k, LotOk T Kp rows (two la lb k)) ∧
  H bs = some (.lst [.ref c0, .ref c1]) ∧ CbAt K a H c0 p l0 T Kp rows la ∧ CbAt K a H c1 p l1 T Kp rows lb ∧ n < 2 ∧ x < rows.length ∧
  (∀ H', Same H H' → ¬ plC T Kp rows (fun s => s ∈ two la lb n) x → Q .non H') ∧
  ∀ H' z Z, Same H H' → H z = none → H' z = some (.lst (ixs Z)) → Stp (plC T Kp rows) (fun s => s ∈ two la lb n) x Z → Q (.ref z) H'
theorem ok_Places_steps_to (T : Tx K mg a) : Fn P w K mg base 7 a.Places_steps_to (sp_steps_to K a) := by
  refine fn_d T.F_Places_steps_to sc_Places_steps_to (fun _ _ _ _ _ _ us hl => match us, hl with | [_, _, _, _], _ => rfl) (fun vs H Q E h => ?_) fun cdv A outer s H vs Q E hr h => ?_
  · obtain ⟨pl, kl, A, B, c, t, p, q, T, g, Kp, rows, la, lb, bs, c0, c1, l0, l1, n, x, rfl, _⟩ := h
    rfl
  · obtain ⟨pl, kl, Al, Bl, c, t, p, q, Tb, g, Kp, rows, la, lb, bs, c0, c1, l0, l1, n, x, rfl, hP, C, L, hbs, hc0, hc1, hn, hx, qn, qs⟩ := h
    have hu := hu_of hr
    refine ⟨_, pss_cons (ps_set (i := 4) sc_Places_steps_to.nd rfl (by first | exact Or.inl rfl | exact Or.inr rfl) (pe_ix ix_list (pe_fld (pv 0) rfl) (pv 1) (fun _ _ => rfl)))
        (pss_cons (ps_if (pt_cmpR op_in_seq (pv 3) (pv 4) (by with_unfolding_all rfl)) (pss_one (ps_ret (pe_lst pa_nil))) pss_nil)
        (pss_cons (ps_set (i := 5) sc_Places_steps_to.nd rfl (by first | exact Or.inl rfl | exact Or.inr rfl) (pe_meth (pe_ix ix_list (pv 2) (pv 1) (fun _ _ => rfl)) T.c_CopiesBase T.M_CopiesBase_relation (ok_CopiesBase_relation P w base T).ok (hr.mono (by decide)) (ok_CopiesBase_relation P w base T).b .nil pass0 (pa_cons (pv 3) pa_nil)))
        (pss_cons (ps_if (pt_cmpR op_notN (pv 5) pe_non (nomark _)) (pss_one (ps_ret (pe_lock (pe_lc (own := [("other", 6)]) rfl sc_Places_steps_to.nd (pi_keys (pv 5)) (blkOk_by (N := ["self", "number", "bases", "thing", "lot", "relation", "other"]) (sc := defScope s_Places_steps_to) (by decide +kernel)) (fun _ _ _ _ _ => (pg_name (i := 6) sc_Places_steps_to.nd rfl (by first | exact Or.inl rfl | exact Or.inr rfl))) (fun _ _ _ _ _ => (pts_one (pt_cmpR op_ne (pv 6) (pv 3) (nomark _)))) (fun _ _ _ _ _ => (pv 6)))))) pss_nil)
        (pss_one (ps_ret (pe_ifExp (pt_cmpR op_lt (pe_callB call_len_seq (by rfl) T.b_len PySem.boot_len (pa_cons (pv 4) pa_nil)) (pe_ix ix_list (pe_fld (pv 0) rfl) (pv 1) (fun _ _ => rfl)) (nomark _)) pe_non (pe_callTy call_list_of (by rfl) T.b_list (by decide +kernel) (pa_cons (pv 4) pa_nil)))))))), ?_⟩
    obtain ⟨dx, tl, sl, hpl, htl, hsl, _⟩ := hP.ob
    have hcl := plC_clo C
    -- the lot, the base by n
    obtain ⟨An, hAn, hlot⟩ : ∃ An : Addr, [V.ref Al, V.ref Bl][n]? = some (.ref An) ∧ H An = some (.lst (ixs (two la lb n))) := by
      match n, hn with
      | 0, _ => exact ⟨Al, rfl, hP.hA⟩
      | 1, _ => exact ⟨Bl, rfl, hP.hB⟩
    obtain ⟨cn, ln, hcn, hCn⟩ : ∃ cn ln : Addr, [V.ref c0, V.ref c1][n]? = some (.ref cn) ∧ CbAt K a H cn p ln Tb Kp rows (two la lb n) := by
      match n, hn with
      | 0, _ => exact ⟨c0, l0, rfl, hc0⟩
      | 1, _ => exact ⟨c1, l1, rfl, hc1⟩
    have hszn : [V.int (rows.length : Nat), V.int (rows.length : Nat)][n]? = some (.int (rows.length : Nat)) := by
      match n, hn with
      | 0, _ => rfl
      | 1, _ => rfl
    have Ln := L n
    generalize two la lb n = lot at *
    refine ⟨_, rfl, pl, _, dx, _, _, rfl, hpl, T.c_Places, T.n_Places_kept, rfl, _, rfl, kl, _, _, _, rfl, rfl, SqL.of hP.hk, at_nat hAn, ?_⟩
    refine ⟨_, rfl, _, rfl, An, _, rfl, .inl (SqL.of hlot), rfl, flat_ixs _, _, rfl, ?_⟩
    show if (inV (.int (x : Int)) (ixs lot)) = true then _ else _
    rw [in_ixs]
    by_cases hxl : x ∈ lot
    · refine itT (decide_eq_true hxl) ?_
      refine ⟨Nat.zero_le _, fun z hz => ?_⟩
      exact qs _ z [] (same_upd hz) hz upd_same ⟨List.nodup_nil, .inl ⟨hxl, rfl⟩⟩
    · refine itF (decide_eq_false hxl) ?_
      obtain ⟨dcb, _, _, _, _, hcb, _⟩ := id hCn
      refine ⟨_, rfl, _, rfl, bs, _, _, _, rfl, rfl, SqL.of hbs, at_nat hcn, cn, _, _, rfl, hcb, rfl, _, rfl, cn, p, ln, Tb, g, Kp, rows, lot, x, rfl, hCn, C, Ln, hx, hxl, fun H1 s1 nc => ?_, fun H1 d Y s1 nd gd St => ?_⟩
      · refine ⟨_, rfl, rfl, _, rfl, itF rfl ?_⟩
        refine ⟨_, rfl, An, _, rfl, .inl (SqL.of (s1 _ _ hlot)), _, rfl, pl, _, dx, _, _, rfl, s1 _ _ hpl, T.c_Places, T.n_Places_sizes, rfl, _, rfl, sl, _, _, _, rfl, rfl, SqL.of (s1 _ _ hsl), at_nat hszn, _, _, rfl, rfl, _, rfl, ?_⟩
        refine itT ?_ (qn _ s1 nc)
        have hl : lot.length < rows.length := by
          have := few (l := x :: lot) (n := rows.length) (List.nodup_cons.mpr ⟨hxl, Ln.nd⟩) fun k hk => by
            rcases List.mem_cons.mp hk with e | e
            · exact e ▸ hx
            · exact Ln.lt k e
          rw [List.length_cons] at this
          exact this
        rw [List.length_map]
        exact decide_eq_true (by omega)
      · refine ⟨_, rfl, rfl, _, rfl, itT rfl ?_⟩
        refine ⟨d, _, gd, trivial, fun od => ?_⟩
        refine ⟨_, rfl, d, od, rfl, .inl ⟨_, upd_same, fun D hD => ?_⟩⟩
        have nD : d ≠ D := ne_of_none upd_same hD
        have hD0 : H1 D = none := by rw [upd_ne nD.symm] at hD; exact hD
        have lz : (mkd Y fun _ => 1).length = Y.length := by unfold mkd; rw [List.length_map]
        have ySub : ∀ y, y ∈ Y → y ∈ lot ∧ y ≠ x := fun y hy => by
          rcases St.2 with ⟨h1, _⟩ | ⟨h1, h2, _⟩
          · exact absurd h1 hxl
          · exact ⟨h2 y hy, fun e => hxl (e ▸ h2 y hy)⟩
        have ylen : Y.length ≤ 6 := Nat.le_trans (few St.1 fun y hy => Ln.lt y (ySub y hy).1) C.len
        refine lc_w walk_keys (fun j => Y[j]?.bind fun k => some (.int (k : Int))) hD (by rw [lz]; omega) (fun H6 s6 => s6 _ _ upd_same) (fun i y H6 H7 hi s6 hy take skip => ?_) fun H6 s6 hd6 => ?_
        · obtain ⟨rfl, k, v, hkv, rfl⟩ := hy
          obtain ⟨k, hk, rfl, rfl⟩ := mkd_at hkv
          refine ⟨rfl, _, rfl, _, rfl, rfl, _, rfl, ?_⟩
          have nk := (ySub k (List.mem_of_getElem? hk)).2
          refine itT ?_ ⟨_, rfl, take _ _ (by rw [hk]; rfl) (Same.refl _)⟩
          show (!decide (V.int (k : Int) = V.int (x : Int))) = true
          rw [dec_int]
          simp
          omega
        · rw [lz, range_fm Y fun k => some (V.int (k : Int)), fm_some] at hd6
          exact ⟨s6 _ _ upd_same, qs _ D Y (s1.trans (lock_same gd s6)) (s1.free hD0) (by rw [upd_ne nD.symm]; exact hd6) St⟩
def sp_told (K : PySem.W.Frag) (a : At) : Sp := fun vs H Q _ => ∃ pl kl A B c t p q T Kp rows la lb, vs = [.ref pl] ∧ PlAt K a H pl kl A B c t p q T Kp rows la lb ∧ la.length < 64 ∧ lb.length < 64 ∧
  ∀ H' r A' B' la' lb', Same H H' → H' r = some (.lst [.ref A', .ref B']) → H' A' = some (.lst (ixs la')) → H' B' = some (.lst (ixs lb')) → la'.Perm la → lb'.Perm lb → Q (.ref r) H'
theorem ok_Places_told (T : Tx K mg a) : Fn P w K mg base 1 a.Places_told (sp_told K a) := by
  refine fn_d T.F_Places_told sc_Places_told (fun _ _ _ _ _ _ us hl => match us, hl with | [_], _ => rfl) (fun vs H Q E h => ?_) fun cdv A outer s H vs Q E hr h => ?_
  · obtain ⟨pl, kl, A, B, c, t, p, q, T, Kp, rows, la, lb, rfl, _⟩ := h
    rfl
  · obtain ⟨pl, kl, Al, Bl, c, t, p, q, Tb, Kp, rows, la, lb, rfl, hP, ha, hb, qq⟩ := h
    refine ⟨_, pss_one (ps_ret (pe_lc (own := [("lot", 1)]) rfl sc_Places_told.nd (pi_list (pe_fld (pv 0) rfl)) (blkOk_by (N := ["self", "lot"]) (sc := defScope s_Places_told) (by decide +kernel)) (fun _ _ _ _ _ => (pg_name (i := 1) sc_Places_told.nd rfl (by first | exact Or.inl rfl | exact Or.inr rfl))) (fun _ _ _ _ _ => pts_nil) (fun _ _ _ _ _ => (pe_callB (cr_sortedK (K := K)) (by rfl) T.b_sorted (by decide +kernel) (pa_cons (pv 1) pa_nil))))), ?_⟩
    obtain ⟨dx, tl, sl, hpl, _⟩ := hP.ob
    refine ⟨_, rfl, pl, _, dx, _, _, rfl, hpl, T.c_Places, T.n_Places_kept, rfl, kl, rfl, ⟨_, SqL.of hP.hk⟩, fun D hD => ?_⟩
    have srt : ∀ {l : List Nat} {ys : List Int}, ys.Perm (castL l) → ∃ l', ys = castL l' ∧ l'.Perm l := fun {l ys} h => by
      have e : ys = castL (ys.map Int.toNat) := cast_of fun k hk => by
        obtain ⟨z, _, e⟩ := List.mem_map.mp (h.subset hk)
        omega
      refine ⟨_, e, ?_⟩
      have h2 := h.map Int.toNat
      rw [List.map_map] at h2
      have e2 : List.map (Int.toNat ∘ fun (k : Nat) => (k : Int)) l = l := by
        rw [show (Int.toNat ∘ fun (k : Nat) => (k : Int)) = id from by funext k; rfl, List.map_id]
      rwa [e2] at h2
    refine lc_refs (walk_list (xs := [.ref Al, .ref Bl])) (fun j c H => ∃ l', H c = some (.lst (ixs l')) ∧ l'.Perm (two la lb j)) hD (Nat.le_of_ble_eq_true rfl) (fun H5 s5 => SqL.of (s5 _ _ hP.hk)) (fun j c H H' cs h n _ e => let ⟨l', h1, h2⟩ := h; ⟨l', e _ _ n h1, h2⟩) (fun j z H5 H6 hj s5 hy _ take => ?_) fun H5 cs s5 hD5 hl nd hcs => ?_
    · obtain ⟨rfl, hz⟩ := hy
      match j, hj, hz with
      | 0, _, hz =>
        cases hz
        refine ⟨rfl, _, rfl, Al, castL la, rfl, by rw [ixs_cast]; exact SqL.of (s5 _ _ hP.hA), by rw [List.length_map]; exact ha, fun ys l hp _ hl => ?_⟩
        obtain ⟨l', rfl, pm⟩ := srt hp
        exact take l _ ⟨l', by rw [upd_same, ixs_cast], pm⟩ hl ⟨_, upd_same⟩ (same_upd hl)
      | 1, _, hz =>
        cases hz
        refine ⟨rfl, _, rfl, Bl, castL lb, rfl, by rw [ixs_cast]; exact SqL.of (s5 _ _ hP.hB), by rw [List.length_map]; exact hb, fun ys l hp _ hl => ?_⟩
        obtain ⟨l', rfl, pm⟩ := srt hp
        exact take l _ ⟨l', by rw [upd_same, ixs_cast], pm⟩ hl ⟨_, upd_same⟩ (same_upd hl)
    · match cs, hl with
      | [A1, B1], _ =>
        obtain ⟨⟨la', a1, a2⟩, _⟩ := hcs 0 A1 rfl
        obtain ⟨⟨lb', b1, b2⟩, _⟩ := hcs 1 B1 rfl
        exact qq _ D A1 B1 la' lb' s5 hD5 a1 b1 a2 b2
end
end FL
/-! Places.reached_from. -/
set_option Elab.async false
set_option linter.all false
set_option maxRecDepth 1000000
set_option maxHeartbeats 8000000
namespace FL
open PySem PySem.Spec PyProof.Rows L2
/-- the dict of who was reached -/
def EntAt (H : Hp) (e : Ent) (v : V) : Prop := match e.2 with
  | none => v = .non
  | some (q, n) => ∃ u, v = .ref u ∧ H u = some (.tup [.int (q : Int), .int (n : Int)])
abbrev kk (ks : List Nat) : List Key := ks.map fun (k : Nat) => (Sum.inl (k : Int) : Key)
def RchAt (H : Hp) (d : Addr) (R : List Ent) : Prop := ∃ vals : List V, vals.length = R.length ∧ H d = some (.dK ((kk (R.map (·.1))).zip vals)) ∧ ∀ (j : Nat) (e : Ent) (v : V), R[j]? = some e → vals[j]? = some v → EntAt H e v
theorem RchAt.keep {H H' : Hp} {d : Addr} {R : List Ent} (h : RchAt H d R) (hd : ∀ o, H d = some o → H' d = some o) (ht : ∀ b ys, H b = some (.tup ys) → H' b = some (.tup ys)) : RchAt H' d R := by
  obtain ⟨vals, h1, h2, h3⟩ := h
  refine ⟨vals, h1, hd _ h2, fun j e v he hv => ?_⟩
  have := h3 j e v he hv
  unfold EntAt at this ⊢
  cases e2 : e.2 with
  | none => rw [e2] at this; exact this
  | some qn =>
    obtain ⟨q, n⟩ := qn
    rw [e2] at this
    obtain ⟨u, h1, h2⟩ := this
    exact ⟨u, h1, ht _ _ h2⟩
theorem RchAt.same {H H' : Hp} {d : Addr} {R : List Ent} (h : RchAt H d R) (s : Same H H') : RchAt H' d R := h.keep (fun o e => s _ _ e) fun b ys e => s _ _ e
theorem zip_val : ∀ {R : List Nat} {vals : List V}, vals.length = R.length → ∀ (k : Nat), valV ((kk R).zip vals) (Sum.inl (k : Int) : Key) = none ↔ k ∉ R
  | [], vals, _, k => by
    constructor
    · intro _ h; simp at h
    · intro _; rfl
  | e :: R, v :: vals, hl, k => by
    rw [kk, List.map_cons, List.zip_cons_cons, List.mem_cons, not_or, ← zip_val (R := R) (vals := vals) (by simpa using hl) k]
    unfold valV
    rw [List.find?_cons]
    by_cases h : e = k
    · rw [decide_eq_true (by rw [h])]
      constructor
      · intro q; cases q
      · intro q; exact absurd h.symm q.1
    · have hne : ¬ ((Sum.inl (e : Int) : Key) = Sum.inl (k : Int)) := fun q => h (by have := Sum.inl.inj q; omega)
      rw [decide_eq_false hne]
      exact ⟨fun q => ⟨fun e => h e.symm, q⟩, fun q => q.2⟩
theorem kk_len (ks : List Nat) : (kk ks).length = ks.length := List.length_map _
theorem zip_fst {ks : List Nat} {vals : List V} (h : vals.length = ks.length) : ((kk ks).zip vals).map (·.1) = kk ks := List.map_fst_zip (by rw [kk_len, h]; exact Nat.le_refl _)
theorem zip_add {ks more : List Nat} {vals us : List V} (h : vals.length = ks.length) : (kk (ks ++ more)).zip (vals ++ us) = (kk ks).zip vals ++ (kk more).zip us := by
  rw [kk, List.map_append, List.zip_append (by rw [kk_len, h])]
/-- who is new is written behind -/
theorem zip_merge {ks more : List Nat} {vals us : List V} (h : vals.length = ks.length) (h2 : us.length = more.length) (nd : (ks ++ more).Nodup) : mergeK ((kk ks).zip vals) ((kk more).zip us) = (kk (ks ++ more)).zip (vals ++ us) := by
  rw [zip_add h, merge_new]
  rw [List.map_append, zip_fst h, zip_fst h2, ← List.map_append]
  exact castk_nodup nd
theorem zip_put {ks : List Nat} {vals : List V} {k : Nat} {v : V} (h : vals.length = ks.length) (hk : k ∉ ks) : putK ((kk ks).zip vals) (Sum.inl (k : Int)) v = (kk (ks ++ [k])).zip (vals ++ [v]) := by
  rw [putK_new _ ((zip_val h k).mpr hk), zip_add h]
  rfl
theorem dget_rch {H : Hp} {d : Addr} {R : List Ent} (h : RchAt H d R) (k : Nat) : ∃ o, DGet H d (.int (k : Int)) o ∧ o.isSome = decide (k ∈ R.map (·.1)) := by
  obtain ⟨vals, h1, h2, _⟩ := h
  refine ⟨_, DGet.k (k := (Sum.inl (k : Int) : Key)) h2, ?_⟩
  have h1 : vals.length = (R.map (·.1)).length := by rw [List.length_map, h1]
  have := zip_val h1 k
  by_cases q : k ∈ R.map (·.1)
  · rw [decide_eq_true q, Option.isSome_iff_ne_none]
    exact fun e => (this.mp e) q
  · rw [decide_eq_false q, this.mpr q]
    rfl
theorem rch_lt {C : Cl} {la lb : List Nat} {st x y m : Nat} {R : List Ent} (I : BInv C (lotsOf la lb) st R x y) (hst : st < m) (hl : ∀ n s, s ∈ two la lb n → s < m) : ∀ t, t ∈ R.map (·.1) → t < m := fun t ht => by
  obtain ⟨e, he, rfl⟩ := List.mem_map.mp ht
  obtain ⟨k, hk⟩ := List.getElem?_of_mem he
  obtain ⟨t, o⟩ := e
  cases o with
  | none =>
    have := I.no k t hk
    subst this
    rw [I.hd] at hk
    have := Option.some.inj hk
    have : st = t := congrArg Prod.fst this
    show t < m
    omega
  | some qn =>
    obtain ⟨q, n⟩ := qn
    obtain ⟨_, _, _, _, _, ⟨Z, s, hz⟩, _⟩ := I.lk k t q n hk
    exact hl n t ((s.of_mem hz).1 t hz)
section
variable (P : Program) (w : World) {K : PySem.W.Frag} {mg : Str → Option Value} (base : Heap) {a : At}
def sp_reached (K : PySem.W.Frag) (a : At) : Sp := fun vs H Q _ => ∃ pl kl A B c t p q T g Kp rows la lb sl st, vs = [.ref pl, .ref sl] ∧ PlAt K a H pl kl A B c t p q T Kp rows la lb ∧ CopOk T g Kp rows ∧ (∀ k, LotOk T Kp rows (two la lb k)) ∧
  H sl = some (.lst [.int (st : Nat)]) ∧ st < rows.length ∧
  (∀ H' r d R, Same H H' → H' r = some (.tup [.ref d, .non]) → RchAt H' d R → H d = none → BInv (plC T Kp rows) (lotsOf la lb) st R R.length 0 → Q (.ref r) H') ∧
  ∀ H' r d R u x y, ∀ (j t n : Nat) (o : Option (Nat × Nat)), Same H H' → H' r = some (.tup [.ref d, .ref u]) → H' u = some (.tup [.int (t : Int), .int (n : Int)]) → RchAt H' d R → H d = none → BInv (plC T Kp rows) (lotsOf la lb) st R x y → R[j]? = some (t, o) → n < 2 →
    ¬ plC T Kp rows (fun s => s ∈ two la lb n) t → Q (.ref r) H'
theorem ok_Places_reached_from (T : Tx K mg a) : Fn P w K mg base 10 a.Places_reached_from (sp_reached K a) := by
  refine fn_d T.F_Places_reached_from sc_Places_reached_from (fun _ _ _ _ _ _ us hl => match us, hl with | [_, _], _ => rfl) (fun vs H Q E h => ?_) fun cdv A outer s H vs Q E hr h => ?_
  · obtain ⟨pl, kl, A, B, c, t, p, q, T, g, Kp, rows, la, lb, sl, st, rfl, _⟩ := h
    rfl
  · obtain ⟨pl, kl, Al, Bl, c, t, p, q, Tb, g, Kp, rows, la, lb, sl, st, rfl, hP, C, L, hsl, hst, qn, qs⟩ := h
    have hu := hu_of hr
    refine ⟨_, pss_cons (ps_setLc (i := 2) (own := [("table", 10), ("lot", 11)]) rfl sc_Places_reached_from.nd rfl rfl (sw_true rfl rfl rfl (by decide +kernel)) (pi_zip (by rfl) T.b_zip (pa_cons (pe_fld (pv 0) rfl) (pa_cons (pe_fld (pv 0) rfl) pa_nil))) (blkOk_by (N := ["self", "starts", "bases", "reached", "level", "later", "thing", "number", "steps", "fresh", "table", "lot", "other"]) (sc := defScope s_Places_reached_from) (by decide +kernel)) (fun _ _ _ _ _ => (pg_two (K := K) 10 11 sc_Places_reached_from.nd)) (fun _ _ _ _ _ => pts_nil) (fun _ _ _ _ _ => (pe_meth (pv 10) T.c_Copies T.M_Copies_base_of (ok_Copies_base_of P w base T).ok (hr.mono (by decide)) (ok_Copies_base_of P w base T).b .nil pass0 (pa_cons (pv 11) pa_nil))))
        (pss_cons (ps_asg (pe_tup (pa_cons (pe_dc (own := [("thing", 6)]) rfl sc_Places_reached_from.nd (pi_list (pv 1)) (blkOk_by (N := ["self", "starts", "bases", "reached", "level", "later", "thing", "number", "steps", "fresh", "table", "lot", "other"]) (sc := defScope s_Places_reached_from) (by decide +kernel)) (fun _ _ _ _ _ => (pg_name (i := 6) sc_Places_reached_from.nd rfl (by first | exact Or.inl rfl | exact Or.inr rfl))) (fun _ _ _ _ _ => pts_nil) (fun _ _ _ _ _ => (pv 6)) (fun _ _ _ _ _ => pe_non)) (pa_cons (pe_callTy call_list_of (by rfl) T.b_list (by decide +kernel) (pa_cons (pv 1) pa_nil)) pa_nil))) (pg_tup rfl (pgs_cons (pg_name (i := 3) sc_Places_reached_from.nd rfl (by first | exact Or.inl rfl | exact Or.inr rfl)) (pgs_cons (pg_name (i := 4) sc_Places_reached_from.nd rfl (by first | exact Or.inl rfl | exact Or.inr rfl)) pgs_nil))))
        (pss_cons (ps_while PassesOwn.never (pt_cmpR op_gt (pe_callB call_len_seq (by rfl) T.b_len PySem.boot_len (pa_cons (pv 4) pa_nil)) pe_int (nomark _)) (pss_cons (ps_set (i := 5) sc_Places_reached_from.nd rfl (by first | exact Or.inl rfl | exact Or.inr rfl) (pe_lst pa_nil))
        (pss_cons (ps_for PassesOwn.never rfl (pi_list (pv 4)) (pg_name (i := 6) sc_Places_reached_from.nd rfl (by first | exact Or.inl rfl | exact Or.inr rfl)) (pss_one (ps_for PassesOwn.never rfl (pi_range1 (by rfl) T.b_range (pa_cons (pe_callB call_len_seq (by rfl) T.b_len PySem.boot_len (pa_cons (pe_fld (pv 0) rfl) pa_nil)) pa_nil)) (pg_name (i := 7) sc_Places_reached_from.nd rfl (by first | exact Or.inl rfl | exact Or.inr rfl)) (pss_cons (ps_set (i := 8) sc_Places_reached_from.nd rfl (by first | exact Or.inl rfl | exact Or.inr rfl) (pe_meth (pv 0) T.c_Places T.M_Places_steps_to (ok_Places_steps_to P w base T).ok (hr.mono (by decide)) (ok_Places_steps_to P w base T).b .nil pass0 (pa_cons (pv 7) (pa_cons (pv 2) (pa_cons (pv 6) pa_nil)))))
        (pss_cons (ps_if (pt_cmpR op_isN (pv 8) pe_non (nomark _)) (pss_one (ps_ret (pe_tup (pa_cons (pv 3) (pa_cons (pe_tup (pa_cons (pv 6) (pa_cons (pv 7) pa_nil))) pa_nil))))) pss_nil)
        (pss_cons (ps_setLc (i := 9) (own := [("other", 12)]) rfl sc_Places_reached_from.nd rfl rfl (sw_true rfl rfl rfl (by decide +kernel)) (pi_list (pv 8)) (blkOk_by (N := ["self", "starts", "bases", "reached", "level", "later", "thing", "number", "steps", "fresh", "table", "lot", "other"]) (sc := defScope s_Places_reached_from) (by decide +kernel)) (fun _ _ _ _ _ => (pg_name (i := 12) sc_Places_reached_from.nd rfl (by first | exact Or.inl rfl | exact Or.inr rfl))) (fun _ _ _ _ _ => (pts_one (pt_cmp (pc_dnotin hu (pv 12) (pv 3))))) (fun _ _ _ _ _ => (pv 12)))
        (pss_cons (ps_expr (pe_upd (pv 3) (pe_dc (own := [("other", 12)]) rfl sc_Places_reached_from.nd (pi_list (pv 9)) (blkOk_by (N := ["self", "starts", "bases", "reached", "level", "later", "thing", "number", "steps", "fresh", "table", "lot", "other"]) (sc := defScope s_Places_reached_from) (by decide +kernel)) (fun _ _ _ _ _ => (pg_name (i := 12) sc_Places_reached_from.nd rfl (by first | exact Or.inl rfl | exact Or.inr rfl))) (fun _ _ _ _ _ => pts_nil) (fun _ _ _ _ _ => (pv 12)) (fun _ _ _ _ _ => (pe_tup (pa_cons (pv 6) (pa_cons (pv 7) pa_nil)))))))
        (pss_one (ps_expr (pe_bm PySem.F.plainAttrs_list PySem.F.slot_list_extend PySem.F.type_list_extend mt_extend (pv 5) (pa_cons (pv 9) pa_nil)))))))))))
        (pss_one (ps_set (i := 4) sc_Places_reached_from.nd rfl (by first | exact Or.inl rfl | exact Or.inr rfl) (pv 5))))))
        (pss_one (ps_ret (pe_tup (pa_cons (pv 3) (pa_cons pe_non pa_nil))))))), ?_⟩
    have hcl := plC_clo C
    obtain ⟨dx, tl, szl, hpl, htl, hszl, _⟩ := hP.ob
    have hlt : ∀ n s, s ∈ two la lb n → s < rows.length := fun n s h => (L n).lt s h
    -- bases
    refine ⟨_, rfl, pl, _, dx, _, _, rfl, hpl, T.c_Places, T.n_Places_tables, rfl, _, rfl, pl, _, dx, _, _, rfl, hpl, T.c_Places, T.n_Places_kept, rfl, tl, kl, _, _, rfl, SqL.of htl, SqL.of hP.hk, fun D hD => ?_⟩
    refine lc_refs (walk_zip (n := 2) (xs := [.ref c, .ref c]) (ys := [.ref Al, .ref Bl]) rfl) (fun j cb H => ∃ l, CbAt K a H cb p l Tb Kp rows (two la lb j) ∧ l ≠ D) hD (by decide) (fun H5 s5 => ⟨SqL.of (s5 _ _ htl), SqL.of (s5 _ _ hP.hk)⟩)
      (fun j cb H1 H' cs h n gD e => let ⟨l, h1, h2⟩ := h; ⟨l, h1.but gD (ne_of_none hP.cop.hp hD) h2 e, h2⟩) (fun j z H5 H6 hj s5 hy hcs take => ?_) fun Hb cs sb hDb hl nd hcs => ?_
    · obtain ⟨T4, x4, z4, rfl, hT4, rfl, hx4, hz4⟩ := hy
      obtain ⟨cs5, hD5⟩ := hcs
      obtain ⟨dc, hc⟩ := hP.cop.ob
      have s6 := same_upd (o := .tup [x4, z4]) hT4
      have s56 := s5.trans s6
      obtain ⟨rfl, Aj, rfl, hAj⟩ : x4 = .ref c ∧ ∃ Aj, z4 = .ref Aj ∧ H Aj = some (.lst (ixs (two la lb j))) := by
        match j, hj, hx4, hz4 with
        | 0, _, hx4, hz4 => cases hx4; cases hz4; exact ⟨rfl, Al, rfl, hP.hA⟩
        | 1, _, hx4, hz4 => cases hx4; cases hz4; exact ⟨rfl, Bl, rfl, hP.hB⟩
      refine ⟨T4, _, rfl, SqT.of upd_same, rfl, _, _, rfl, _, _, rfl, rfl, rfl, _, rfl, c, dc, _, rfl, s56 _ _ hc, rfl, _, rfl, c, t, p, q, Aj, Tb, g, Kp, rows, two la lb j, rfl, hP.cop.same s56, SqL.of (s56 _ _ hAj), C, L j, fun H7 cb l s7 nc nl hB => ?_⟩
      obtain ⟨_, _, _, _, _, hcb, _⟩ := id hB
      exact take cb _ ⟨l, hB, (ne_of_none (s6 _ _ hD5) nl).symm⟩ (s6.free nc) ⟨_, hcb⟩ (s6.trans s7)
    obtain ⟨c0, c1, rfl⟩ : ∃ c0 c1, cs = [c0, c1] := by
      match cs, hl with
      | [c0, c1], _ => exact ⟨c0, c1, rfl⟩
    obtain ⟨⟨l0, hc0, _⟩, _⟩ := hcs 0 c0 rfl
    obtain ⟨⟨l1, hc1, _⟩, _⟩ := hcs 1 c1 rfl
    -- reached, level
    refine ⟨_, rfl, sl, rfl, ⟨_, SqL.of (sb _ _ hsl)⟩, fun d hd => ?_⟩
    refine dc_w (walk_list (xs := [.int (st : Nat)])) (fun j => if j = 0 then some ((Sum.inl (st : Int) : Key), .non) else none) hd (Nat.le_of_ble_eq_true rfl) (by show [(Sum.inl (st : Int) : Key)].Nodup; simp) (fun H5 s5 => SqL.of (s5 _ _ (sb _ _ hsl))) (fun j z H5 H6 hj s5 hy take skip => ?_) fun Hd sd hdd => ?_
    · obtain ⟨rfl, hz⟩ := hy
      have hj : j < 1 := hj
      obtain rfl : j = 0 := by omega
      cases hz
      exact ⟨rfl, _, rfl, take (Sum.inl (st : Int)) _ _ rfl (Same.refl _)⟩
    have sbd := sd
    refine ⟨_, rfl, sl, _, rfl, .inl (SqL.of (sd _ _ (sb _ _ hsl))), fun lv hlv => ?_⟩
    have s1 := same_upd (o := .lst [.int (st : Nat)]) hlv
    refine ⟨(by show 2 ≤ sizeLine; decide), fun tp htp => ⟨tp, _, rfl, SqT.of upd_same, rfl, _, _, rfl, _, _, rfl, rfl, ?_⟩⟩
    have s2 := s1.trans (same_upd (o := .tup [.ref d, .ref lv]) htp)
    have hst6 : ∀ {R : List Ent} {x y : Nat}, BInv (plC Tb Kp rows) (lotsOf la lb) st R x y → R.length ≤ 6 := fun {R x y} I => by
      have := few I.nd fun k hk => rch_lt I hst hlt k hk
      rw [List.length_map] at this
      exact Nat.le_trans this C.len
    refine ⟨fun m σ H' => ∃ R aa lv y5 y6 y7 y8 y9 y10 y11 y12, σ = [some (.ref pl), some (.ref sl), some (.ref D), some (.ref d), some (.ref lv), y5, y6, y7, y8, y9, y10, y11, y12] ∧ Same Hb H' ∧ RchAt H' d R ∧ H' lv = some (.lst (ixs ((R.map (·.1)).drop aa))) ∧
      BInv (plC Tb Kp rows) (lotsOf la lb) st R aa 0 ∧ aa ≤ R.length ∧ m = 7 - aa, ⟨7, [(st, none)], 0, lv, none, none, none, none, none, none, none, none, rfl, sd.trans s2, ⟨[.non], rfl, s2 _ _ hdd, fun j e v he hv => ?_⟩, ?_, binv_start, Nat.zero_le _, rfl⟩, fun m σ H1 hW => ?_⟩
    · match j, he, hv with
      | 0, he, hv => cases he; cases hv; exact rfl
    · exact same_upd htp _ _ upd_same
    obtain ⟨R0, aa, lv, y5, y6, y7, y8, y9, y10, y11, y12, rfl, sw, hR0, hlv, I0, haa, rfl⟩ := hW
    have lL : (ixs ((R0.map (·.1)).drop aa)).length = R0.length - aa := by rw [List.length_map, List.length_drop, List.length_map]
    refine ⟨_, rfl, lv, _, rfl, .inl (SqL.of hlv), _, _, rfl, rfl, _, rfl, ?_⟩
    by_cases hend : aa = R0.length
    · subst hend
      refine itF (by rw [lL]; simp) ?_
      refine ⟨_, rfl, (by show 2 ≤ sizeLine; decide), fun r hr => ?_⟩
      have s3 := same_upd (o := .tup [.ref d, .non]) hr
      exact qn _ r d R0 ((sb.trans sw).trans s3) upd_same (hR0.same s3) (sb.free hd) I0
    refine itT (by rw [lL]; exact decide_eq_true (by omega)) ?_
    refine ⟨fun σ' H' => ∃ m', m' < 7 - aa ∧ _, fun σ' H' h => h, Nat.zero_le _, fun lt hlt0 => ?_⟩
    have ss0 := same_upd (o := .lst []) hlt0
    have nbt : Hb lt = none := sw.free hlt0
    have nvt : lv ≠ lt := ne_of_none hlv hlt0
    have ndt : d ≠ lt := let ⟨_, _, h, _⟩ := hR0; ne_of_none h hlt0
    have nvd : lv ≠ d := fun e => by obtain ⟨_, _, h, _⟩ := hR0; rw [e, h] at hlv; cases hlv
    have nbd : Hb d = none := hd
    refine ⟨_, rfl, lv, rfl, ⟨_, SqL.of (ss0 _ _ hlv)⟩, ?_⟩
    refine for_it (walk_list (xs := ixs ((R0.map (·.1)).drop aa))) (fun i σ H' => ∃ (F : List Ent) (y6 y7 y8 y9 y10 y11 y12 : Option V), σ = [some (.ref pl), some (.ref sl), some (.ref D), some (.ref d), some (.ref lv), some (.ref lt), y6, y7, y8, y9, y10, y11, y12] ∧ Same Hb H' ∧ RchAt H' d (R0 ++ F) ∧
      H' lv = some (.lst (ixs ((R0.map (·.1)).drop aa))) ∧ H' lt = some (.lst (ixs (F.map (·.1)))) ∧ BInv (plC Tb Kp rows) (lotsOf la lb) st (R0 ++ F) (aa + i) 0) ?_ (fun i σ H' _ hQ => ?_) (fun i z σ H2 H3 hi hQ hy => ?_) fun σ H2 hQ => ?_
    · refine ⟨[], y6, y7, y8, y9, y10, y11, y12, rfl, sw.trans ss0, ?_, ss0 _ _ hlv, upd_same, ?_⟩
      · rw [List.append_nil]; exact hR0.same ss0
      · rw [List.append_nil]; exact I0
    · obtain ⟨F, _, _, _, _, _, _, _, rfl, _, _, h, _⟩ := hQ
      exact SqL.of h
    · obtain ⟨F, y6, y7, y8, y9, y10, y11, y12, rfl, sw2, hRF, hlv2, hlt2, I2⟩ := hQ
      obtain ⟨rfl, hz⟩ := hy
      obtain ⟨th, hth, rfl⟩ := ix_at hz
      rw [List.getElem?_drop, List.getElem?_map] at hth
      obtain ⟨⟨t0, o⟩, hq0, e0⟩ := Option.map_eq_some_iff.mp hth
      have hth : R0[aa + i]? = some (th, o) := by rw [hq0, show t0 = th from e0]
      clear hq0 e0
      refine ⟨_, rfl, pl, _, dx, _, _, rfl, sw2 _ _ (sb _ _ hpl), T.c_Places, T.n_Places_kept, rfl, kl, _, rfl, .inl (SqL.of (sw2 _ _ (sb _ _ hP.hk))), (2 : Int), rfl, by decide, by decide, ?_⟩
      refine for_it (walk_range (lo := 0) (n := 2)) (fun n σ H' => ∃ (F : List Ent) (y7 y8 y9 y10 y11 y12 : Option V), σ = [some (.ref pl), some (.ref sl), some (.ref D), some (.ref d), some (.ref lv), some (.ref lt), some (.int (th : Int)), y7, y8, y9, y10, y11, y12] ∧ Same Hb H' ∧ RchAt H' d (R0 ++ F) ∧
        H' lv = some (.lst (ixs ((R0.map (·.1)).drop aa))) ∧ H' lt = some (.lst (ixs (F.map (·.1)))) ∧ BInv (plC Tb Kp rows) (lotsOf la lb) st (R0 ++ F) (aa + i) n) ?_ (fun i σ H' _ hQ => trivial) (fun n z σ H2 H3 hn2 hQ hy => ?_) fun σ H2 hQ => ?_
      · exact ⟨F, y7, y8, y9, y10, y11, y12, rfl, sw2, hRF, hlv2, hlt2, I2⟩
      · obtain ⟨F, y7, y8, y9, y10, y11, y12, rfl, sw2, hRF, hlv2, hlt2, I2⟩ := hQ
        obtain ⟨rfl, hz⟩ := hy
        obtain rfl : z = .int (n : Int) := by rw [hz]; show V.int (0 + (n : Int)) = _; rw [Int.zero_add]
        have hq : (R0 ++ F)[aa + i]? = some (th, o) := by rw [List.getElem?_append_left (List.getElem?_eq_some_iff.mp hth).1]; exact hth
        have thl : th < rows.length := rch_lt I2 hst hlt th (List.mem_map.mpr ⟨_, List.mem_of_getElem? hq, rfl⟩)
        have sH := sb.trans sw2
        refine ⟨_, rfl, pl, dx, _, rfl, sH _ _ hpl, rfl, _, rfl, _, rfl, _, rfl, pl, kl, Al, Bl, c, t, p, q, Tb, g, Kp, rows, la, lb, D, c0, c1, l0, l1, n, th, rfl, hP.same sH, C, L, sw2 _ _ hDb, hc0.same sw2, hc1.same sw2, hn2, thl, fun H4 s4 nc => ?_, fun H4 z Z s4 nz gz St => ?_⟩
        · refine ⟨_, rfl, rfl, _, rfl, itT rfl ?_⟩
          refine ⟨_, rfl, _, rfl, _, rfl, (by show 2 ≤ sizeLine; decide), fun u hu1 => ⟨(by show 2 ≤ sizeLine; decide), fun r hr => ?_⟩⟩
          have s5 := same_upd (o := .tup [.int (th : Int), .int (n : Int)]) hu1
          have s6 := same_upd (o := .tup [.ref d, .ref u]) hr
          exact qs _ r d (R0 ++ F) u _ _ _ th n o ((sH.trans s4).trans (s5.trans s6)) upd_same (s6 _ _ upd_same) (hRF.same (s4.trans (s5.trans s6))) (sb.free hd) I2 hq hn2 nc
        · refine ⟨_, rfl, rfl, _, rfl, itF rfl ?_⟩
          have zlen : Z.length ≤ 6 := by
            have zl : ∀ y, y ∈ Z → y < rows.length := fun y hy => hlt n y ((St.of_mem hy).1 y hy)
            exact Nat.le_trans (few St.1 zl) C.len
          have IS := I2.step hq hn2 St
          have hfz : ∀ k, k ∈ Z.filter (fun z => !decide (z ∈ (R0 ++ F).map (·.1))) → k ∉ (R0 ++ F).map (·.1) := fun k hk => by
            have := (List.mem_filter.mp hk).2
            simpa using this
          have hff : ∀ k, k ∈ Z → (!decide (k ∈ (R0 ++ F).map (·.1))) = true → k ∈ Z.filter (fun z => !decide (z ∈ (R0 ++ F).map (·.1))) := fun k h1 h2 => List.mem_filter.mpr ⟨h1, h2⟩
          have hfl : (Z.filter (fun z => !decide (z ∈ (R0 ++ F).map (·.1)))).length ≤ 6 := Nat.le_trans (List.length_filter_le _ _) zlen
          have sw4 := sw2.trans s4
          refine ⟨_, rfl, z, rfl, ⟨_, SqL.of gz⟩, fun fs hfs => ?_⟩
          refine lc_w (walk_list (xs := ixs Z)) (fun j => Z[j]?.bind fun k => if (!decide (k ∈ (R0 ++ F).map (·.1))) then some (.int (k : Int)) else none) hfs (by rw [List.length_map]; omega) (fun H5 s5 => SqL.of (s5 _ _ gz)) (fun j z H5 H6 hj s5 hy take skip => ?_) fun H5 s5 hD5 => ?_
          · obtain ⟨rfl, hz⟩ := hy
            obtain ⟨k, hk, rfl⟩ := ix_at hz
            obtain ⟨ov, dg, ho⟩ := dget_rch ((hRF.same s4).same s5) k
            refine ⟨rfl, _, rfl, _, rfl, d, ov, rfl, dg, _, rfl, ?_⟩
            by_cases hin : k ∈ (R0 ++ F).map (·.1)
            · refine itF (by rw [ho, decide_eq_true hin]; rfl) (skip _ (by rw [hk]; show (if _ then _ else _) = none; rw [decide_eq_true hin]; rfl) (Same.refl _))
            · refine itT (by rw [ho, decide_eq_false hin]; rfl) ⟨_, rfl, take _ _ (by rw [hk]; show (if _ then _ else _) = some _; rw [decide_eq_false hin]; rfl) (Same.refl _)⟩
          have lZ : (ixs Z).length = Z.length := List.length_map _
          rw [lZ, range_fm Z fun k => if (!decide (k ∈ (R0 ++ F).map (·.1))) then some (V.int (k : Int)) else none, fm_filter] at hD5
          have ndall : ((R0 ++ F).map (·.1) ++ Z.filter (fun z => !decide (z ∈ (R0 ++ F).map (·.1)))).Nodup := by
            have := IS.nd
            rw [List.map_append, List.map_map] at this
            rwa [show List.map ((fun x : Ent => x.1) ∘ fun z => (z, some (th, n))) (Z.filter (fun z => !decide (z ∈ (R0 ++ F).map (·.1)))) = Z.filter (fun z => !decide (z ∈ (R0 ++ F).map (·.1))) from by rw [show ((fun x : Ent => x.1) ∘ fun z => (z, some (th, n))) = id from rfl, List.map_id]] at this
          generalize hfzd : Z.filter (fun z => !decide (z ∈ (R0 ++ F).map (·.1))) = fz at *
          have sw5 := sw4.trans s5
          have hR5 := (hRF.same s4).same s5
          obtain ⟨vals, v1, v2, v3⟩ := hR5
          refine ⟨_, rfl, .inr (.inr (.inl ⟨rfl, .inl ⟨_, v2⟩⟩)), _, rfl, fs, rfl, ⟨_, SqL.of hD5⟩, fun D2 hD2 => ?_⟩
          refine dc_it (walk_list (xs := ixs fz)) (fun j H6 => Same H5 H6 ∧ ∃ us : List Addr, us.length = j ∧ H6 D2 = some (.dK ((kk (fz.take j)).zip (us.map V.ref))) ∧ ∀ (i : Nat) (u : Addr), us[i]? = some u → H6 u = some (.tup [.int (th : Int), .int (n : Int)])) ⟨same_upd hD2, [], rfl, upd_same, fun i u h => by simp at h⟩ (fun i H6 _ h => SqL.of (h.1 _ _ hD5)) (fun j z H6 H7 hj hQ hy => ?_) fun H6 hQ => ?_
          · obtain ⟨s6, us, hus, hd2, hut⟩ := hQ
            obtain ⟨rfl, hz⟩ := hy
            obtain ⟨k, hk, rfl⟩ := ix_at hz
            have hjl : j < fz.length := (List.getElem?_eq_some_iff.mp hk).1
            refine ⟨rfl, _, rfl, _, rfl, _, rfl, (by show 2 ≤ sizeLine; decide), fun u hu2 => ?_⟩
            have s7 := same_upd (o := .tup [.int (th : Int), .int (n : Int)]) hu2
            have nu : u ≠ D2 := fun e => by rw [e, hd2] at hu2; cases hu2
            have knew : k ∉ fz.take j := fun h => by
              have nf : fz.Nodup := (List.nodup_append.mp ndall).2.1
              have h1 : (fz.take (j + 1)).Nodup := nf.sublist (List.take_sublist _ _)
              rw [List.take_add_one, hk] at h1
              exact (List.nodup_append.mp h1).2.2 k h k (by simp) rfl
            refine ⟨_, Sum.inl (k : Int), rfl, s7 _ _ hd2, ?_, same_chg (s6.trans s7) hD2, us ++ [u], by rw [List.length_append, hus]; rfl, ?_, fun i u2 hu3 => ?_⟩
            · rw [List.length_zip, kk_len, List.length_take, List.length_map, hus]
              exact Nat.lt_of_le_of_lt (show _ ≤ 6 by omega) (by decide)
            · rw [upd_same, zip_put (by rw [List.length_map, List.length_take, hus]; omega) knew, List.take_add_one, hk, List.map_append]
              rfl
            · have nu2 : u2 ≠ D2 ∧ upd H7 u (.tup [.int (th : Int), .int (n : Int)]) u2 = some (.tup [.int (th : Int), .int (n : Int)]) := by
                by_cases hi : i < us.length
                · rw [List.getElem?_append_left hi] at hu3
                  have := hut i u2 hu3
                  exact ⟨fun e => (by rw [e, hd2] at this; cases this), s7 _ _ this⟩
                · rw [List.getElem?_append_right (by omega)] at hu3
                  have hj' : i - us.length = 0 := Nat.eq_zero_of_not_pos fun hp => by
                    rw [List.getElem?_eq_none (by show 1 ≤ _; omega)] at hu3
                    cases hu3
                  rw [hj'] at hu3
                  have e : u = u2 := Option.some.inj hu3
                  subst e
                  exact ⟨nu, upd_same⟩
              rw [upd_ne nu2.1]
              exact nu2.2
          obtain ⟨s6, us, hus, hd2, hut⟩ := hQ
          have lF : (ixs fz).length = fz.length := List.length_map _
          rw [lF] at hus hd2
          rw [List.take_length] at hd2
          have ndD2 : d ≠ D2 := ne_of_none v2 hD2
          have v1' : vals.length = ((R0 ++ F).map (·.1)).length := by rw [v1, List.length_map]
          have hRl := hst6 I2
          refine ⟨d, D2, _, _, rfl, rfl, ndD2, s6 _ _ v2, hd2, ?_, ?_⟩
          · rw [List.length_zip, List.length_zip, kk_len, kk_len, List.length_map, List.length_map, hus, v1]
            exact Nat.le_trans (show _ ≤ 12 by omega) (by decide)
          rw [zip_merge v1' (by rw [List.length_map, hus]) ndall]
          have g6t := s6 _ _ (s5 _ _ (s4 _ _ hlt2))
          have g6f := s6 _ _ hD5
          have nfd : fs ≠ d := fun e => by rw [e, v2] at hD5; cases hD5
          have ntf : lt ≠ fs := ne_of_none (s4 _ _ hlt2) hfs
          refine ⟨_, rfl, .inl ⟨rfl, _, SqL.of (by rw [upd_ne ndt.symm]; exact g6t)⟩, _, rfl, lt, fs, _, _, rfl, rfl, by rw [upd_ne ndt.symm]; exact g6t, by rw [upd_ne nfd]; exact g6f, ?_, ?_⟩
          · have : F.length ≤ 6 := by rw [List.length_append] at hRl; omega
            rw [List.length_map, List.length_map, List.length_map]
            exact Nat.le_trans (show _ ≤ 12 by omega) (by decide)
          have e1 : (fz.map fun z => (z, some (th, n))).map (·.1) = fz := by
            rw [List.map_map, show ((fun x : Ent => x.1) ∘ fun z => (z, some (th, n))) = id from rfl, List.map_id]
          have e2 : R0 ++ F ++ fz.map (fun z => (z, some (th, n))) = R0 ++ (F ++ fz.map fun z => (z, some (th, n))) := List.append_assoc ..
          rw [e2] at IS
          have sw6 : Same Hb (upd (upd H6 d (.dK ((kk ((R0 ++ F).map (·.1) ++ fz)).zip (vals ++ us.map V.ref)))) lt (.lst (ixs (F.map (·.1)) ++ ixs fz))) := same_chg (same_chg (sw5.trans s6) nbd) nbt
          refine ⟨F ++ fz.map (fun z => (z, some (th, n))), _, _, _, _, _, _, rfl, sw6, ?_, ?_, ?_, IS⟩
          · refine ⟨vals ++ us.map V.ref, by rw [List.length_append, List.length_append, List.length_append, v1, List.length_map, List.length_map, hus, List.length_append]; omega, ?_, fun i e v he hv => ?_⟩
            · rw [upd_ne ndt, upd_same, ← e2, List.map_append (l₂ := fz.map _), e1]
            · have tupk : ∀ {b : Addr} {ys : List V}, H6 b = some (.tup ys) → upd (upd H6 d (.dK ((kk ((R0 ++ F).map (·.1) ++ fz)).zip (vals ++ us.map V.ref)))) lt (.lst (ixs (F.map (·.1)) ++ ixs fz)) b = some (.tup ys) := fun {b ys} hb => by
                rw [upd_ne (fun e => by rw [e, g6t] at hb; cases hb), upd_ne (fun e => by rw [e, s6 _ _ v2] at hb; cases hb)]
                exact hb
              rw [← e2] at he
              by_cases hi : i < (R0 ++ F).length
              · rw [List.getElem?_append_left hi] at he
                rw [List.getElem?_append_left (by rw [v1]; exact hi)] at hv
                have := v3 i e v he hv
                unfold EntAt at this ⊢
                cases e2 : e.2 with
                | none => rw [e2] at this; exact this
                | some qn =>
                  obtain ⟨q2, n2⟩ := qn
                  rw [e2] at this
                  obtain ⟨u, h1, h2⟩ := this
                  exact ⟨u, h1, tupk (s6 _ _ h2)⟩
              · rw [List.getElem?_append_right (by omega)] at he
                rw [List.getElem?_append_right (by rw [v1]; omega), v1] at hv
                rw [List.getElem?_map] at he
                obtain ⟨z, hz, rfl⟩ := Option.map_eq_some_iff.mp he
                obtain ⟨u, hu3, rfl⟩ := ref_at hv
                exact ⟨u, rfl, tupk (hut _ u hu3)⟩
          · rw [upd_ne nvt, upd_ne nvd]
            exact s6 _ _ (s5 _ _ (s4 _ _ hlv2))
          · rw [upd_same, List.map_append, e1]
            show some (HO.lst (ixs _ ++ ixs fz)) = some (HO.lst (ixs (_ ++ fz)))
            unfold ixs
            rw [List.map_append]
      · obtain ⟨F, y7, y8, y9, y10, y11, y12, rfl, sw2, hRF, hlv2, hlt2, I2⟩ := hQ
        exact ⟨F, some (.int (th : Int)), y7, y8, y9, y10, y11, y12, rfl, sw2, hRF, hlv2, hlt2, I2.next⟩
    · obtain ⟨F, y6, y7, y8, y9, y10, y11, y12, rfl, sw2, hRF, hlv2, hlt2, I2⟩ := hQ
      rw [lL] at I2
      have hA : aa + (R0.length - aa) = R0.length := by omega
      rw [hA] at I2
      have := hst6 I2
      rw [List.length_append] at this
      refine ⟨_, rfl, 7 - R0.length, by omega, R0 ++ F, R0.length, lt, some (.ref lt), y6, y7, y8, y9, y10, y11, y12, rfl, sw2, hRF, ?_, I2, by rw [List.length_append]; omega, rfl⟩
      rw [List.map_append, List.drop_left' (List.length_map _)]
      exact hlt2
end
end FL
/-! Places.put. -/
set_option Elab.async false
set_option linter.all false
set_option maxRecDepth 1000000
set_option maxHeartbeats 8000000
namespace FL
open PySem PySem.Spec PyProof.Rows L2
theorem rch_get {H : Hp} {d : Addr} {R : List Ent} (h : RchAt H d R) (nd : (R.map (·.1)).Nodup) {e : Ent} (he : e ∈ R) : ∃ v, DGet H d (.int (e.1 : Int)) (some v) ∧ EntAt H e v := by
  obtain ⟨vals, h1, h2, h3⟩ := h
  have gen : ∀ (R : List Ent) (vals : List V), vals.length = R.length → (R.map (·.1)).Nodup → e ∈ R → ∃ v j, valV ((kk (R.map (·.1))).zip vals) (Sum.inl (e.1 : Int) : Key) = some v ∧ R[j]? = some e ∧ vals[j]? = some v := fun R => by
    induction R with
    | nil => intro _ _ _ h; simp at h
    | cons x R ih =>
      intro vals hl nd he
      cases vals with
      | nil => simp at hl
      | cons v vals =>
        rw [List.map_cons, List.nodup_cons] at nd
        unfold valV
        rw [List.map_cons, kk, List.map_cons, List.zip_cons_cons, List.find?_cons]
        rcases List.mem_cons.mp he with q | q
        · subst q
          rw [decide_eq_true rfl]
          exact ⟨v, 0, rfl, rfl, rfl⟩
        · have hne : x.1 ≠ e.1 := fun z => nd.1 (z ▸ List.mem_map.mpr ⟨e, q, rfl⟩)
          rw [decide_eq_false (fun z => hne (by have := Sum.inl.inj z; omega))]
          obtain ⟨v2, j, a1, a2, a3⟩ := ih vals (by simpa using hl) nd.2 q
          exact ⟨v2, j + 1, a1, a2, a3⟩
  obtain ⟨v, j, a1, a2, a3⟩ := gen R vals h1 nd he
  refine ⟨v, ?_, h3 j e v a2 a3⟩
  rw [← a1]
  exact DGet.k (k := (Sum.inl (e.1 : Int) : Key)) h2
theorem back_at {C : Cl} {L : Lots} {R : List Ent} {p : List (Nat × Nat)} (B : Back C L R p) {i s m : Nat} (h : p[i]? = some (s, m)) : (s, p[i + 1]?) ∈ R := by
  have hi : i < p.length := (List.getElem?_eq_some_iff.mp h).1
  have e0 : p[i] = (s, m) := (List.getElem?_eq_some_iff.mp h).2
  have e1 : p = p.take i ++ (s, m) :: p.drop (i + 1) := by rw [← e0, List.getElem_cons_drop, List.take_append_drop]
  cases hd : p.drop (i + 1) with
  | nil =>
    rw [hd] at e1
    have := B.last _ _ _ e1
    rw [List.getElem?_eq_none (by have := List.drop_eq_nil_iff.mp hd; omega)]
    exact this
  | cons x b =>
    obtain ⟨s', m'⟩ := x
    rw [hd] at e1
    have h2 : p[i + 1]? = some (s', m') := by
      have := congrArg (fun l : List (Nat × Nat) => l[0]?) hd
      rw [List.getElem?_drop] at this
      exact this
    rw [h2]
    exact (B.turn _ _ _ _ _ _ e1).1
/-- moves -/
def pk (p : List (Nat × Nat)) : List (Key × V) := p.map fun x => ((Sum.inl (x.1 : Int) : Key), V.int (x.2 : Int))
theorem pk_none {p : List (Nat × Nat)} {s : Nat} (h : s ∉ p.map (·.1)) : valV (pk p) (Sum.inl (s : Int) : Key) = none := by
  unfold valV
  rw [Option.map_eq_none_iff, List.find?_eq_none]
  intro x hx e
  obtain ⟨y, hy, rfl⟩ := List.mem_map.mp hx
  have := Sum.inl.inj (of_decide_eq_true e)
  exact h (List.mem_map.mpr ⟨y, hy, by show y.1 = s; have : ((y.1 : Nat) : Int) = s := this; omega⟩)
theorem pk_some : ∀ {p : List (Nat × Nat)} {s : Nat}, s ∈ p.map (·.1) → ∃ m : Nat, valV (pk p) (Sum.inl (s : Int) : Key) = some (.int (m : Int))
  | [], _, h => by simp at h
  | x :: p, s, h => by
    unfold valV pk
    rw [List.map_cons, List.find?_cons]
    by_cases q : x.1 = s
    · rw [decide_eq_true (by rw [q])]
      exact ⟨x.2, rfl⟩
    · rw [decide_eq_false (fun z => q (by have := Sum.inl.inj z; omega))]
      rw [List.map_cons, List.mem_cons] at h
      exact pk_some (h.resolve_left fun e => q e.symm)
theorem pk_keys (p : List (Nat × Nat)) : (pk p).map (·.1) = (castL (p.map (·.1))).map Sum.inl := by
  unfold pk castL
  rw [List.map_map, List.map_map, List.map_map]
  rfl
theorem erase_cast : ∀ (l : List Nat) (s : Nat), (castL l).erase (s : Int) = castL (l.erase s)
  | [], _ => rfl
  | x :: l, s => by
    by_cases e : x = s
    · subst e
      rw [castL, List.map_cons, List.erase_cons_head, List.erase_cons_head]
    · have e1 : ((x == s) = true) ↔ False := by simp [e]
      have e2 : (((x : Int) == (s : Int)) = true) ↔ False := by
        simp
        omega
      rw [castL, List.map_cons, List.erase_cons_tail (by rw [e2]; exact fun h => h), List.erase_cons_tail (by rw [e1]; exact fun h => h)]
      show (x : Int) :: (castL l).erase (s : Int) = (x : Int) :: castL (l.erase s)
      rw [erase_cast l s]
/-- both lots by number -/
def LS (H : Hp) (ad : Nat → Addr) (M : Nat → Nat → Prop) : Prop := ∃ ls : Nat → List Nat, ∀ k, k < 2 → H (ad k) = some (.lst (ixs (ls k))) ∧ (ls k).Nodup ∧ ∀ z, z ∈ ls k ↔ M k z
theorem LS.chg {H : Hp} {ad : Nat → Addr} {M M' : Nat → Nat → Prop} (h : LS H ad M) (inj : ad 0 ≠ ad 1) {n : Nat} (hn : n < 2) {l : List Nat} (nd : l.Nodup) (hm : ∀ z, z ∈ l ↔ M' n z) (ho : ∀ k, k < 2 → k ≠ n → ∀ z, M' k z ↔ M k z) :
    LS (upd H (ad n) (.lst (ixs l))) ad M' := by
  obtain ⟨ls, h⟩ := h
  refine ⟨fun k => if k = n then l else ls k, fun k hk => ?_⟩
  by_cases e : k = n
  · subst e
    dsimp only
    rw [if_pos rfl]
    exact ⟨upd_same, nd, hm⟩
  · dsimp only
    rw [if_neg e]
    obtain ⟨h1, h2, h3⟩ := h k hk
    refine ⟨?_, h2, fun z => (h3 z).trans (ho k hk e z).symm⟩
    have : ad k ≠ ad n := by
      rcases (show (k = 0 ∧ n = 1) ∨ (k = 1 ∧ n = 0) by omega) with ⟨rfl, rfl⟩ | ⟨rfl, rfl⟩
      · exact inj
      · exact inj.symm
    rw [upd_ne this]
    exact h1
theorem LS.iff {H : Hp} {ad : Nat → Addr} {M M' : Nat → Nat → Prop} (h : LS H ad M) (e : ∀ k, k < 2 → ∀ z, M k z ↔ M' k z) : LS H ad M' := by
  obtain ⟨ls, h⟩ := h
  exact ⟨ls, fun k hk => let ⟨a, b, c⟩ := h k hk; ⟨a, b, fun z => (c z).trans (e k hk z)⟩⟩
theorem LS.ne {H H' : Hp} {ad : Nat → Addr} {M : Nat → Nat → Prop} (h : LS H ad M) (e : ∀ x xs, H x = some (.lst xs) → H' x = some (.lst xs)) : LS H' ad M := by
  obtain ⟨ls, h⟩ := h
  exact ⟨ls, fun k hk => let ⟨a, b, c⟩ := h k hk; ⟨e _ _ a, b, c⟩⟩
section
variable (P : Program) (w : World) {K : PySem.W.Frag} {mg : Str → Option Value} (base : Heap) {a : At}
def sp_put (K : PySem.W.Frag) (a : At) : Sp := fun vs H Q _ => ∃ pl kl A B c t p q T g Kp rows la lb, ∃ (st : Nat), vs = [.ref pl, .int (st : Int)] ∧ PlAt K a H pl kl A B c t p q T Kp rows la lb ∧ CopOk T g Kp rows ∧ st < rows.length ∧ LotsOk (plC T Kp rows) st la lb ∧
  ∀ H' r la' lb', (∀ x o, H x = some o → x ≠ A → x ≠ B → H' x = some o) → PlAt K a H' pl kl A B c t p q T Kp rows la' lb' → LotsOk (plC T Kp rows) (st + 1) la' lb' → Q r H'
theorem ok_Places_put (T : Tx K mg a) : Fn P w K mg base 11 a.Places_put (sp_put K a) := by
  refine fn_d T.F_Places_put sc_Places_put (fun _ _ _ _ _ _ us hl => match us, hl with | [_, _], _ => rfl) (fun vs H Q E h => ?_) fun cdv A outer s H vs Q E hr h => ?_
  · obtain ⟨pl, kl, A, B, c, t, p, q, T, g, Kp, rows, la, lb, st, rfl, _⟩ := h
    rfl
  · obtain ⟨pl, kl, Al, Bl, c, t, p, q, Tb, g, Kp, rows, la, lb, st, rfl, hP, C, hst, LO, qq⟩ := h
    have hu := hu_of hr
    have hcl := plC_clo C
    obtain ⟨dx, tl, szl, hpl, htl, hszl, _⟩ := hP.ob
    have L : ∀ k, LotOk Tb Kp rows (two la lb k) := fun k => ⟨?_, fun s hs => Nat.lt_trans (LO.lt k s hs) hst, LO.ind k⟩
    · refine ⟨_, pss_cons (ps_asg (pe_meth (pv 0) T.c_Places T.M_Places_reached_from (ok_Places_reached_from P w base T).ok (hr.mono (by decide)) (ok_Places_reached_from P w base T).b .nil pass0 (pa_cons (pe_lst (pa_cons (pv 1) pa_nil)) pa_nil)) (pg_tup rfl (pgs_cons (pg_name (i := 2) sc_Places_put.nd rfl (by first | exact Or.inl rfl | exact Or.inr rfl)) (pgs_cons (pg_name (i := 3) sc_Places_put.nd rfl (by first | exact Or.inl rfl | exact Or.inr rfl)) pgs_nil))))
        (pss_cons (ps_if (pt_cmpR op_isN (pv 3) pe_non (nomark _)) (pss_one (ps_ret pe_non)) pss_nil)
        (pss_cons (ps_set (i := 4) sc_Places_put.nd rfl (by first | exact Or.inl rfl | exact Or.inr rfl) pe_dnewK)
        (pss_cons (ps_asg (pv 3) (pg_tup rfl (pgs_cons (pg_name (i := 5) sc_Places_put.nd rfl (by first | exact Or.inl rfl | exact Or.inr rfl)) (pgs_cons (pg_name (i := 6) sc_Places_put.nd rfl (by first | exact Or.inl rfl | exact Or.inr rfl)) pgs_nil))))
        (pss_cons (ps_while PassesOwn.never (pt_cmpR op_notN (pv 5) pe_non (nomark _)) (pss_cons (ps_dput hu (pv 4) (pv 5) (pv 6) rfl)
        (pss_one (ps_asg (pe_ifExp (pt_cmpR op_isN (pe_dget hu (pv 2) (pv 5) (fun _ _ => rfl)) pe_non (nomark _)) (pe_tup (pa_cons pe_non (pa_cons pe_non pa_nil))) (pe_dget hu (pv 2) (pv 5) (fun _ _ => rfl))) (pg_tup rfl (pgs_cons (pg_name (i := 5) sc_Places_put.nd rfl (by first | exact Or.inl rfl | exact Or.inr rfl)) (pgs_cons (pg_name (i := 6) sc_Places_put.nd rfl (by first | exact Or.inl rfl | exact Or.inr rfl)) pgs_nil)))))))
        (pss_cons (ps_lock (ps_for PassesOwn.never rfl (pi_keys (pv 4)) (pg_name (i := 5) sc_Places_put.nd rfl (by first | exact Or.inl rfl | exact Or.inr rfl)) (pss_one (ps_for PassesOwn.never rfl (pi_list (pe_fld (pv 0) rfl)) (pg_name (i := 7) sc_Places_put.nd rfl (by first | exact Or.inl rfl | exact Or.inr rfl)) (pss_one (ps_if (pt_cmpR op_in_seq (pv 5) (pv 7) (by with_unfolding_all rfl)) (pss_one (ps_expr (pe_bm PySem.F.plainAttrs_list PySem.F.slot_list_remove PySem.F.type_list_remove mt_remove (pv 7) (pa_cons (pv 5) pa_nil)))) pss_nil))))))
        (pss_cons (ps_lock (ps_for PassesOwn.never rfl (pi_items (pv 4)) (pg_tup rfl (pgs_cons (pg_name (i := 5) sc_Places_put.nd rfl (by first | exact Or.inl rfl | exact Or.inr rfl)) (pgs_cons (pg_name (i := 6) sc_Places_put.nd rfl (by first | exact Or.inl rfl | exact Or.inr rfl)) pgs_nil))) (pss_one (ps_expr (pe_bm PySem.F.plainAttrs_list PySem.F.slot_list_append PySem.F.type_list_append mt_append (pe_ix ix_list (pe_fld (pv 0) rfl) (pv 6) (fun _ _ => rfl)) (pa_cons (pv 5) pa_nil))))))
        (pss_one (ps_ret (pe_dc (own := [("mover", 5)]) rfl sc_Places_put.nd (pi_list (pe_callB (call_sortedDI rfl) (by rfl) T.b_sorted (by decide +kernel) (pa_cons (pv 4) pa_nil))) (blkOk_by (N := ["self", "thing", "reached", "last", "moves", "mover", "number", "lot"]) (sc := defScope s_Places_put) (by decide +kernel)) (fun _ _ _ _ _ => (pg_name (i := 5) sc_Places_put.nd rfl (by first | exact Or.inl rfl | exact Or.inr rfl))) (fun _ _ _ _ _ => pts_nil) (fun _ _ _ _ _ => (pv 5)) (fun _ _ _ _ _ => (pe_dget hu (pv 4) (pv 5) (fun _ _ => rfl)))))))))))), ?_⟩
      refine ⟨_, rfl, pl, dx, _, rfl, hpl, rfl, _, rfl, (by show 1 ≤ sizeLine; decide), fun sl hsl => ?_⟩
      have s0 := same_upd (o := .lst [.int (st : Int)]) hsl
      refine ⟨pl, kl, Al, Bl, c, t, p, q, Tb, g, Kp, rows, la, lb, sl, st, rfl, hP.same s0, C, L, upd_same, hst, fun H1 r d R s1 gr hR nd I => ?_, fun H1 r d R u x y j t' n o s1 gr gu hR nd I hj hn room => ?_⟩
      · refine ⟨r, _, rfl, SqT.of gr, rfl, _, _, rfl, _, _, rfl, rfl, ?_⟩
        refine ⟨_, rfl, rfl, _, rfl, itT rfl ?_⟩
        exact qq _ _ la lb (fun x o e _ _ => s1 _ _ (s0 _ _ e)) (hP.same (s0.trans s1)) (LO.none (I.tight hcl) (List.mem_map.mpr ⟨_, List.mem_of_getElem? I.hd, rfl⟩))
      · refine ⟨r, _, rfl, SqT.of gr, rfl, _, _, rfl, _, _, rfl, rfl, ?_⟩
        refine ⟨_, rfl, rfl, _, rfl, itF rfl ?_⟩
        obtain ⟨rest, B, hm⟩ := I.back hcl j t' n o hj
        have LO' := fun {a' b' : List Nat} (nda : a'.Nodup) (ndb : b'.Nodup) ma mb => LO.some hcl I hj hn room B (fun m h => (hm m h).1) nda ndb ma mb
        have hp2 : ∀ x, x ∈ (t', n) :: rest → x.2 < 2 := fun x hx => by
          rcases List.mem_cons.mp hx with e | e
          · rw [e]; exact hn
          · exact (hm x e).1
        have hp0 : ((t', n) :: rest)[0]? = some (t', n) := rfl
        generalize hpw : (t', n) :: rest = pw at *
        have pwl : pw.length ≤ 6 := by
          have := few B.nd (n := rows.length) fun k hk => by
            obtain ⟨x, hx, rfl⟩ := List.mem_map.mp hk
            obtain ⟨i, hi⟩ := List.getElem?_of_mem hx
            exact rch_lt I hst (fun n s h => Nat.lt_trans (LO.lt n s h) hst) x.1 (List.mem_map.mpr ⟨_, back_at B (s := x.1) (m := x.2) hi, rfl⟩)
          rw [List.length_map] at this
          exact Nat.le_trans this C.len
        refine fun dm hdm => ?_
        have s2 := same_upd (o := .dK []) hdm
        have s01 := s0.trans s1
        refine ⟨_, rfl, u, _, rfl, SqT.of (s2 _ _ gu), rfl, _, _, rfl, _, _, rfl, rfl, ?_⟩
        have nd1 : H1 dm = none := hdm
        refine ⟨fun m σ H' => ∃ (i : Nat) (y7 : Option V), i ≤ pw.length ∧ σ = [some (.ref pl), some (.int (st : Int)), some (.ref d), some (.ref u), some (.ref dm), some ((pw[i]?.map fun x => V.int (x.1 : Int)).getD .non), some ((pw[i]?.map fun x => V.int (x.2 : Int)).getD .non), y7] ∧
          Same H1 H' ∧ H' dm = some (.dK (pk (pw.take i))) ∧ m = pw.length - i, ⟨_, 0, none, Nat.zero_le _, by rw [hp0]; rfl, s2, upd_same, rfl⟩, fun m σ H2 hW => ?_⟩
        obtain ⟨i, y7, hi, rfl, sw, gdm, rfl⟩ := hW
        by_cases hend : i = pw.length
        · subst hend
          have e1 : pw[pw.length]? = none := List.getElem?_eq_none (Nat.le_refl _)
          rw [e1]
          refine ⟨_, rfl, rfl, _, rfl, itF rfl ?_⟩
          rw [List.take_length] at gdm
          have sH2 : Same H H2 := s01.trans sw
          let ad : Nat → Addr := fun k => if k = 0 then Al else Bl
          have adne : ad 0 ≠ ad 1 := hP.ab
          have adAB : ∀ k, k < 2 → (ad k = Al ∨ ad k = Bl) ∧ [V.ref Al, V.ref Bl][k]? = some (.ref (ad k)) := fun k hk => by
            match k, hk with
            | 0, _ => exact ⟨.inl rfl, rfl⟩
            | 1, _ => exact ⟨.inr rfl, rfl⟩
          have ndm : H dm = none := s01.free nd1
          have nadm : ∀ k, k < 2 → ad k ≠ dm := fun k hk e => by
            rcases (adAB k hk).1 with z | z
            · rw [← e, z, hP.hA] at ndm; cases ndm
            · rw [← e, z, hP.hB] at ndm; cases ndm
          have plAB : pl ≠ Al ∧ pl ≠ Bl ∧ kl ≠ Al ∧ kl ≠ Bl := by
            refine ⟨fun e => ?_, fun e => ?_, fun e => ?_, fun e => ?_⟩
            · rw [e, hP.hA] at hpl; cases hpl
            · rw [e, hP.hB] at hpl; cases hpl
            · have h1 := hP.hk
              rw [e, hP.hA] at h1
              cases la with
              | nil => injection h1 with h1; injection h1 with h1; cases h1
              | cons z l => injection h1 with h1; injection h1 with h1; injection h1 with h1; cases h1
            · have h1 := hP.hk
              rw [e, hP.hB] at h1
              cases lb with
              | nil => injection h1 with h1; injection h1 with h1; cases h1
              | cons z l => injection h1 with h1; injection h1 with h1; injection h1 with h1; cases h1
          have LS0 : LS H2 ad (fun k z => z ∈ two la lb k) := ⟨two la lb, fun k hk => by
            match k, hk with
            | 0, _ => exact ⟨sH2 _ _ hP.hA, LO.nda, fun z => Iff.rfl⟩
            | 1, _ => exact ⟨sH2 _ _ hP.hB, LO.ndb, fun z => Iff.rfl⟩⟩
          have pkl : ∀ i, (pk (pw.take i)).length ≤ 6 := fun i => by
            unfold pk
            rw [List.length_map, List.length_take]
            omega
          have pkl6 : (pk pw).length = pw.length := by unfold pk; rw [List.length_map]
          -- take them out
          refine ⟨dm, _, gdm, trivial, fun od => ?_⟩
          refine ⟨_, rfl, dm, od, rfl, .inl ⟨_, upd_same, ?_⟩⟩
          refine for_it walk_keys (fun i σ H' => ∃ (y5 y6 y7 : Option V), σ = [some (.ref pl), some (.int (st : Int)), some (.ref d), some (.ref u), some (.ref dm), y5, y6, y7] ∧ H' dm = some (.frz od (.dK (pk pw))) ∧ (∀ x o, H x = some o → x ≠ Al → x ≠ Bl → H' x = some o) ∧
            LS H' ad (fun k z => z ∈ two la lb k ∧ z ∉ (pw.take i).map (·.1))) ?_ (fun i σ H' _ h => ?_) (fun i z σ H3 H4 hi hQ hy => ?_) fun σ H3 hQ => ?_
          · refine ⟨_, _, y7, rfl, upd_same, fun x o e _ _ => by rw [upd_ne (ne_of_none e ndm)]; exact sH2 _ _ e, (LS0.ne fun x xs e => by rw [upd_ne (fun z => by rw [z, gdm] at e; cases e)]; exact e).iff fun k _ z => by simp⟩
          · obtain ⟨_, _, _, rfl, h, _⟩ := h
            exact h
          · obtain ⟨y5, y6, y7, rfl, gd3, oth, ls⟩ := hQ
            obtain ⟨rfl, k0, v0, hkv, rfl⟩ := hy
            obtain ⟨⟨s', m'⟩, hsm, e0⟩ : ∃ x, pw[i]? = some x ∧ ((Sum.inl (x.1 : Int) : Key), V.int (x.2 : Int)) = (k0, v0) := by
              unfold pk at hkv
              rw [List.getElem?_map] at hkv
              exact Option.map_eq_some_iff.mp hkv
            obtain ⟨rfl, rfl⟩ := Prod.mk.inj e0
            have etk : pw.take (i + 1) = pw.take i ++ [(s', m')] := by rw [List.take_add_one, hsm]; rfl
            refine ⟨_, rfl, pl, _, dx, _, _, rfl, oth _ _ hpl plAB.1 plAB.2.1, T.c_Places, T.n_Places_kept, rfl, kl, rfl, ⟨_, SqL.of (oth _ _ hP.hk plAB.2.2.1 plAB.2.2.2)⟩, ?_⟩
            refine for_it (walk_list (xs := [.ref Al, .ref Bl])) (fun n σ H' => ∃ (y6 y7 : Option V), σ = [some (.ref pl), some (.int (st : Int)), some (.ref d), some (.ref u), some (.ref dm), some (.int (s' : Int)), y6, y7] ∧ H' dm = some (.frz od (.dK (pk pw))) ∧ (∀ x o, H x = some o → x ≠ Al → x ≠ Bl → H' x = some o) ∧
              LS H' ad (fun k z => z ∈ two la lb k ∧ z ∉ (pw.take (if k < n then i + 1 else i)).map (·.1))) ⟨y6, y7, rfl, gd3, oth, ls⟩ (fun n σ H' _ h => ?_) (fun n z σ H4 H5 hn2 hQ hy => ?_) fun σ H4 hQ => ?_
            · obtain ⟨_, _, rfl, _, h, _⟩ := h
              exact SqL.of (h _ _ hP.hk plAB.2.2.1 plAB.2.2.2)
            · obtain ⟨y6, y7, rfl, gd4, oth4, ls4⟩ := hQ
              obtain ⟨rfl, hz⟩ := hy
              have hn2 : n < 2 := hn2
              rw [(adAB n hn2).2] at hz
              obtain rfl : V.ref (ad n) = z := Option.some.inj hz
              obtain ⟨lsf, hls⟩ := id ls4
              obtain ⟨g1, g2, g3⟩ := hls n hn2
              have g3 : ∀ z, z ∈ lsf n ↔ (z ∈ two la lb n ∧ z ∉ (pw.take i).map (·.1)) := fun z => by
                have := g3 z
                dsimp only at this
                rw [if_neg (Nat.lt_irrefl n)] at this
                exact this
              refine ⟨_, rfl, _, rfl, ad n, _, rfl, .inl (SqL.of g1), rfl, flat_ixs _, _, rfl, ?_⟩
              show if (inV (.int (s' : Int)) (ixs (lsf n))) = true then _ else _
              rw [in_ixs]
              have others : ∀ k, k < 2 → k ≠ n → ∀ z, (z ∈ two la lb k ∧ z ∉ (pw.take (if k < n + 1 then i + 1 else i)).map (·.1)) ↔ (z ∈ two la lb k ∧ z ∉ (pw.take (if k < n then i + 1 else i)).map (·.1)) := fun k hk e z => by
                by_cases q : k < n
                · rw [if_pos q, if_pos (show k < n + 1 by omega)]
                · rw [if_neg q, if_neg (show ¬ k < n + 1 by omega)]
              have self : ∀ z, (z ∈ two la lb n ∧ z ∉ (pw.take (if n < n + 1 then i + 1 else i)).map (·.1)) ↔ (z ∈ lsf n ∧ z ≠ s') := fun z => by
                rw [if_pos (Nat.lt_succ_self n), g3, etk, List.map_append, List.mem_append]
                show _ ↔ _
                constructor
                · rintro ⟨h1, h2⟩
                  exact ⟨⟨h1, fun h => h2 (.inl h)⟩, fun e => h2 (.inr (by rw [e]; exact List.mem_singleton.mpr rfl))⟩
                · rintro ⟨⟨h1, h2⟩, h3⟩
                  exact ⟨h1, fun h => h.elim h2 fun h => h3 (List.mem_singleton.mp h)⟩
              by_cases hin : s' ∈ lsf n
              · refine itT (decide_eq_true hin) ?_
                obtain ⟨j2, f1, f2, f3, f4⟩ := first_at (ns := castL (lsf n)) (k := (s' : Int)) (List.mem_map.mpr ⟨s', hin, rfl⟩)
                refine ⟨_, rfl, .inl ⟨rfl, _, SqL.of g1⟩, _, rfl, ad n, castL (lsf n), (s' : Int), j2, rfl, rfl, by rw [ixs_cast]; exact g1, f2, f3, ?_⟩
                rw [f4, erase_cast, ixs_cast]
                refine ⟨y6, _, rfl, by rw [upd_ne (nadm n hn2).symm]; exact gd4, fun x o e n1 n2 => ?_, ls4.chg adne hn2 (g2.erase s') (fun z => ?_) others⟩
                · rw [upd_ne (by rcases (adAB n hn2).1 with z | z <;> rw [z] <;> assumption)]
                  exact oth4 x o e n1 n2
                · rw [g2.mem_erase_iff, self, And.comm]
              · refine itF (decide_eq_false hin) ?_
                refine ⟨y6, _, rfl, gd4, oth4, ls4.iff fun k hk z => ?_⟩
                by_cases e : k = n
                · subst e
                  rw [self, if_neg (Nat.lt_irrefl k), ← g3]
                  exact ⟨fun h => ⟨h, fun e => hin (e ▸ h)⟩, fun h => h.1⟩
                · exact (others k hk e z).symm
            · obtain ⟨y6, y7, rfl, gd4, oth4, ls4⟩ := hQ
              exact ⟨_, y6, y7, rfl, gd4, oth4, ls4.iff fun k hk z => by rw [if_pos (show k < [V.ref Al, V.ref Bl].length from hk)]⟩
          obtain ⟨y5, y6, y7, rfl, gd3, oth3, ls3⟩ := hQ
          rw [pkl6, List.take_length] at ls3
          refine ⟨gd3, ?_⟩
          have ls3' : LS (upd H3 dm (.dK (pk pw))) ad (fun k z => (z ∈ two la lb k ∧ z ∉ pw.map (·.1)) ∨ (z, k) ∈ pw.take 0) := (ls3.ne fun x xs e => by rw [upd_ne (fun z => by rw [z, gd3] at e; cases e)]; exact e).iff fun k hk z => by simp
          have oth3' : ∀ x o, H x = some o → x ≠ Al → x ≠ Bl → upd H3 dm (.dK (pk pw)) x = some o := fun x o e n1 n2 => by rw [upd_ne (ne_of_none e ndm)]; exact oth3 x o e n1 n2
          have gdm3 : upd H3 dm (.dK (pk pw)) dm = some (.dK (pk pw)) := upd_same
          generalize upd H3 dm (.dK (pk pw)) = H4 at *
          -- put them in
          refine ⟨dm, _, gdm3, trivial, fun od => ?_⟩
          refine ⟨_, rfl, dm, od, _, rfl, upd_same, ?_⟩
          refine for_it walk_items (fun i σ H' => ∃ (y5 y6 y7 : Option V), σ = [some (.ref pl), some (.int (st : Int)), some (.ref d), some (.ref u), some (.ref dm), y5, y6, y7] ∧ H' dm = some (.frz od (.dK (pk pw))) ∧ (∀ x o, H x = some o → x ≠ Al → x ≠ Bl → H' x = some o) ∧
            LS H' ad (fun k z => (z ∈ two la lb k ∧ z ∉ pw.map (·.1)) ∨ (z, k) ∈ pw.take i)) ?_ (fun i σ H' _ h => ?_) (fun i z σ H5 H6 hi hQ hy => ?_) fun σ H5 hQ => ?_
          · refine ⟨_, _, y7, rfl, upd_same, fun x o e n1 n2 => by rw [upd_ne (ne_of_none e ndm)]; exact oth3' x o e n1 n2, ls3'.ne fun x xs e => by rw [upd_ne (fun z => by rw [z, gdm3] at e; cases e)]; exact e⟩
          · obtain ⟨_, _, _, rfl, h, _⟩ := h
            exact h
          · obtain ⟨y5, y6, y7, rfl, gd5, oth5, ls5⟩ := hQ
            obtain ⟨T4, x4, z4, rfl, hT4, rfl, hx4, hz4⟩ := hy
            obtain ⟨⟨s', m'⟩, hsm, rfl, rfl⟩ : ∃ x, pw[i]? = some x ∧ V.int (x.1 : Int) = x4 ∧ V.int (x.2 : Int) = z4 := by
              have hx4 : Option.map (fun kv => kV kv.1) (pk pw)[i]? = some x4 := hx4
              have hz4 : Option.map Prod.snd (pk pw)[i]? = some z4 := hz4
              unfold pk at hx4 hz4
              rw [List.getElem?_map] at hx4 hz4
              cases e : pw[i]? with
              | none => rw [e] at hx4; cases hx4
              | some x =>
                rw [e] at hx4 hz4
                exact ⟨x, rfl, Option.some.inj hx4, Option.some.inj hz4⟩
            have s6 := same_upd (o := .tup [.int (s' : Int), .int (m' : Int)]) hT4
            have etk : pw.take (i + 1) = pw.take i ++ [(s', m')] := by rw [List.take_add_one, hsm]; rfl
            have hm2 : m' < 2 := hp2 _ (List.mem_of_getElem? hsm)
            have ls6 := ls5.ne fun x xs e => s6 _ _ e
            have oth6 : ∀ x o, H x = some o → x ≠ Al → x ≠ Bl → upd H5 T4 (.tup [.int (s' : Int), .int (m' : Int)]) x = some o := fun x o e n1 n2 => s6 _ _ (oth5 x o e n1 n2)
            have gd6 := s6 _ _ gd5
            have gT6 : upd H5 T4 (.tup [.int (s' : Int), .int (m' : Int)]) T4 = some (.tup [.int (s' : Int), .int (m' : Int)]) := upd_same
            show gTup K 2 _ _ _ _ _
            generalize upd H5 T4 (.tup [.int (s' : Int), .int (m' : Int)]) = H6 at *
            obtain ⟨lsf, hls⟩ := id ls6
            obtain ⟨g1, g2, g3⟩ := hls m' hm2
            have smem : s' ∈ pw.map (·.1) := List.mem_map.mpr ⟨_, List.mem_of_getElem? hsm, rfl⟩
            have snew : s' ∉ (pw.take i).map (·.1) := fun h => by
              have h1 : ((pw.take (i + 1)).map (·.1)).Nodup := B.nd.sublist ((List.take_sublist _ _).map _)
              rw [etk, List.map_append] at h1
              exact (List.nodup_append.mp h1).2.2 s' h s' (by simp) rfl
            have sl : s' ∉ lsf m' := fun h => by
              rcases (g3 s').mp h with h | h
              · exact h.2 smem
              · exact snew (List.mem_map.mpr ⟨_, h, rfl⟩)
            have lsl : (lsf m').length < sizeLine := by
              have hsub : ∀ z, z ∈ lsf m' → z < rows.length := fun z hz => by
                rcases (g3 z).mp hz with h | h
                · exact Nat.lt_trans (LO.lt m' z h.1) hst
                · obtain ⟨i2, hi2⟩ := List.getElem?_of_mem (List.mem_of_mem_take h)
                  exact rch_lt I hst (fun n s h => Nat.lt_trans (LO.lt n s h) hst) z (List.mem_map.mpr ⟨_, back_at B hi2, rfl⟩)
              exact Nat.lt_of_le_of_lt (Nat.le_trans (few g2 hsub) C.len) (by decide)
            refine ⟨T4, _, rfl, SqT.of gT6, rfl, _, _, rfl, _, _, rfl, rfl, ?_⟩
            refine ⟨_, rfl, pl, _, dx, _, _, rfl, oth6 _ _ hpl plAB.1 plAB.2.1, T.c_Places, T.n_Places_kept, rfl, _, rfl, kl, _, _, _, rfl, rfl, SqL.of (oth6 _ _ hP.hk plAB.2.2.1 plAB.2.2.2), at_nat (adAB m' hm2).2, .inl ⟨rfl, _, SqL.of g1⟩, _, rfl, ad m', _, _, rfl, rfl, g1, by rw [List.length_map]; exact lsl, ?_⟩
            have ea : ixs (lsf m') ++ [V.int (s' : Int)] = ixs (lsf m' ++ [s']) := by unfold ixs; rw [List.map_append]; rfl
            rw [ea]
            refine ⟨_, _, y7, rfl, by rw [upd_ne (nadm m' hm2).symm]; exact gd6, fun x o e n1 n2 => ?_, ls6.chg adne hm2 (List.nodup_append.mpr ⟨g2, by simp, fun x hx y hy e => by rw [List.mem_singleton] at hy; subst hy; subst e; exact sl hx⟩) (fun z => ?_) fun k hk e z => ?_⟩
            · rw [upd_ne (by rcases (adAB m' hm2).1 with z | z <;> rw [z] <;> assumption)]
              exact oth6 x o e n1 n2
            · rw [List.mem_append, g3, etk, List.mem_append, List.mem_singleton, List.mem_singleton]
              constructor
              · rintro ((h | h) | h)
                · exact .inl h
                · exact .inr (.inl h)
                · exact .inr (.inr (by rw [h]))
              · rintro (h | h | h)
                · exact .inl (.inl h)
                · exact .inl (.inr h)
                · exact .inr (congrArg Prod.fst h)
            · rw [etk, List.mem_append, List.mem_singleton]
              constructor
              · rintro (h | h | h)
                · exact .inl h
                · exact .inr h
                · exact absurd (congrArg Prod.snd h) e
              · rintro (h | h)
                · exact .inl h
                · exact .inr (.inl h)
          obtain ⟨y5, y6, y7, rfl, gd5, oth5, ls5⟩ := hQ
          rw [pkl6, List.take_length] at ls5
          refine ⟨gd5, ?_⟩
          have ls6 : LS (upd H5 dm (.dK (pk pw))) ad (fun k z => (z ∈ two la lb k ∧ z ∉ pw.map (·.1)) ∨ (z, k) ∈ pw) := ls5.ne fun x xs e => by rw [upd_ne (fun z => by rw [z, gd5] at e; cases e)]; exact e
          have oth6 : ∀ x o, H x = some o → x ≠ Al → x ≠ Bl → upd H5 dm (.dK (pk pw)) x = some o := fun x o e n1 n2 => by rw [upd_ne (ne_of_none e ndm)]; exact oth5 x o e n1 n2
          have gdm6 : upd H5 dm (.dK (pk pw)) dm = some (.dK (pk pw)) := upd_same
          generalize upd H5 dm (.dK (pk pw)) = H6 at *
          obtain ⟨lsf, hls⟩ := ls6
          obtain ⟨a1, a2, a3⟩ := hls 0 (by decide)
          obtain ⟨b1, b2, b3⟩ := hls 1 (by decide)
          -- tell the moves
          refine ⟨_, rfl, dm, _, castL (pw.map (·.1)), rfl, .inl gdm6, pk_keys pw, by rw [List.length_map, List.length_map]; omega, fun ys pp pm _ hpp => ?_⟩
          have s7 := same_upd (o := .lst (ys.map V.int)) hpp
          refine ⟨pp, rfl, ⟨_, SqL.of upd_same⟩, fun D hD => ?_⟩
          have ysnd : ys.Nodup := pm.nodup_iff.mpr (List.pairwise_map.mpr (B.nd.imp fun h e => h (by omega)))
          have lF : (ys.map V.int).length = ys.length := List.length_map _
          have yl : ys.length ≤ 6 := by rw [pm.length_eq, List.length_map, List.length_map]; exact pwl
          refine dc_w (walk_list (xs := ys.map V.int)) (fun j => ys[j]?.bind fun k => some ((Sum.inl k : Key), (valV (pk pw) (Sum.inl k : Key)).getD .non)) hD (by rw [lF]; omega) ?_ (fun H8 s8 => SqL.of (s8 _ _ upd_same)) (fun j z H8 H9 hj s8 hy take skip => ?_) fun H8 s8 hd8 => ?_
          · rw [lF, range_fm ys fun k => some ((Sum.inl k : Key), (valV (pk pw) (Sum.inl k : Key)).getD .non), fm_some, List.map_map]
            exact List.pairwise_map.mpr (ysnd.imp fun h e => h (Sum.inl.inj e))
          · obtain ⟨rfl, hz⟩ := hy
            obtain ⟨k, hk, rfl⟩ := int_at hz
            obtain ⟨s', hs', rfl⟩ := List.mem_map.mp (pm.subset (List.mem_of_getElem? hk))
            obtain ⟨m', em⟩ := pk_some hs'
            have dg := DGet.k (k := (Sum.inl (s' : Int) : Key)) (s8 _ _ (s7 _ _ gdm6))
            rw [em] at dg
            refine ⟨rfl, _, rfl, _, rfl, _, rfl, dm, _, rfl, dg, take (Sum.inl (s' : Int)) _ _ ?_ (Same.refl _)⟩
            rw [hk]
            show some _ = some _
            rw [em]
            rfl
          · have oth9 : ∀ x o, H x = some o → x ≠ Al → x ≠ Bl → H8 x = some o := fun x o e n1 n2 => s8 _ _ (s7 _ _ (oth6 x o e n1 n2))
            refine qq _ _ (lsf 0) (lsf 1) oth9 (hP.chg oth9 (s8 _ _ (s7 _ _ a1)) (s8 _ _ (s7 _ _ b1))) (LO' a2 b2 (fun z => a3 z) fun z => b3 z)
        · obtain ⟨⟨s', m'⟩, hsm⟩ : ∃ x, pw[i]? = some x := ⟨pw[i], List.getElem?_eq_getElem (by omega)⟩
          rw [hsm]
          refine ⟨_, rfl, rfl, _, rfl, itT rfl ?_⟩
          refine ⟨fun σ' H' => ∃ m', m' < pw.length - i ∧ _, fun σ' H' h => h, ?_⟩
          have hil : i < pw.length := by omega
          have snew : s' ∉ (pw.take i).map (·.1) := fun h => by
            have h1 : ((pw.take (i + 1)).map (·.1)).Nodup := B.nd.sublist ((List.take_sublist _ _).map _)
            rw [List.take_add_one, hsm, List.map_append] at h1
            exact (List.nodup_append.mp h1).2.2 s' h s' (by simp) rfl
          refine ⟨_, rfl, _, rfl, _, rfl, dm, _, rfl, .inl ⟨_, Sum.inl (s' : Int), gdm, rfl, ?_, rfl⟩, ?_⟩
          · unfold pk
            rw [List.length_map, List.length_take]
            exact Nat.lt_of_le_of_lt (show _ ≤ 6 by omega) (by decide)
          have epk : putK (pk (pw.take i)) (Sum.inl (s' : Int)) (V.int (m' : Int)) = pk (pw.take (i + 1)) := by
            rw [putK_new _ (pk_none snew), List.take_add_one, hsm]
            unfold pk
            rw [List.map_append]
            rfl
          show _
          rw [show putK (pk (pw.take i)) (Sum.inl (s' : Int)) ((some (s', m')).map (fun x : Nat × Nat => V.int (x.2 : Int)) |>.getD .non) = pk (pw.take (i + 1)) from epk]
          have s3 : Same H1 (upd H2 dm (.dK (pk (pw.take (i + 1))))) := same_chg sw nd1
          obtain ⟨v, dg, ev⟩ := rch_get (hR.same s3) I.nd (back_at B hsm)
          unfold EntAt at ev
          cases hnx : pw[i + 1]? with
          | none =>
            rw [hnx] at ev
            obtain rfl : v = .non := ev
            refine ⟨_, rfl, _, rfl, d, _, rfl, dg, rfl, _, rfl, itT rfl ?_⟩
            refine ⟨(by show 2 ≤ sizeLine; decide), fun tp htp => ⟨tp, _, rfl, SqT.of upd_same, rfl, _, _, rfl, _, _, rfl, rfl, ?_⟩⟩
            have s4 := same_upd (o := .tup [.non, .non]) htp
            exact ⟨_, by omega, i + 1, y7, hil, by rw [hnx]; rfl, s3.trans s4, s4 _ _ upd_same, rfl⟩
          | some x2 =>
            obtain ⟨q2, n2⟩ := x2
            rw [hnx] at ev
            obtain ⟨u2, rfl, gu2⟩ := ev
            refine ⟨_, rfl, _, rfl, d, _, rfl, dg, rfl, _, rfl, itF rfl ?_⟩
            refine ⟨_, rfl, _, rfl, d, _, rfl, dg, u2, _, rfl, SqT.of gu2, rfl, _, _, rfl, _, _, rfl, rfl, ?_⟩
            exact ⟨_, by omega, i + 1, y7, hil, by rw [hnx]; rfl, s3, upd_same, rfl⟩
    · match k with
      | 0 => exact LO.nda
      | 1 => exact LO.ndb
      | _ + 2 => exact List.nodup_nil
end
end FL
/-! A target of names, from a list. -/
set_option Elab.async false
set_option linter.all false
set_option maxRecDepth 100000
set_option maxHeartbeats 4000000
namespace FL
open PySem PySem.Spec PyProof.Rows L2
section
variable {prog : Program} {w : World} {A : Around} {E : Value → Shared → Prop} {s : Shared}
theorem iter_same {h h' : Heap} {it l : Addr} {xs : Array Value} (hl : h.IsList l xs) (sb : Heap.SameBut it h h') (ne : l ≠ it) : h'.IsList l xs := hl.extBut sb.extBut ne
theorem draw_lst {it l : Addr} {xs : Array Value} (ne : l ≠ it) : ∀ (n i : Nat) (s : Shared) (Q : List Value → Shared → Prop), s.heap.IsListIter it l i → s.heap.IsList l xs → i + n ≤ xs.size →
    (∀ h', h'.IsListIter it l (i + n) → Heap.SameBut it s.heap h' → Q ((xs.toList.drop i).take n) { s with heap := h' }) → wpAny (model prog w) A (draw (.ref it) n) Q E s
  | 0, i, s, Q, hi, _, _, q => by
    have q0 := q s.heap hi (Heap.SameBut.refl _ _)
    rw [List.take_zero] at q0
    exact wpAny_pure q0
  | n + 1, i, s, Q, hi, hl, hle, q => by
    have lt : i < xs.size := by omega
    show wpAny _ _ ((pyNext (.ref it)) >>= _) _ E _
    refine wpAny_bind (wpAny_pyNext_list_item hi hl (x := xs[i]) (Array.getElem?_eq_getElem lt) fun h1 hi1 sb1 => ?_)
    refine wpAny_bind (wpAny_holding (draw_lst ne n (i + 1) _ _ hi1 (iter_same hl sb1 ne) (by omega) fun h2 hi2 sb2 => wpAny_pure ?_))
    have q1 := q h2 ((show i + 1 + n = i + (n + 1) by omega) ▸ hi2) (sb1.trans sb2)
    have e : xs.toList.drop i = xs[i] :: xs.toList.drop (i + 1) := by
      rw [List.drop_eq_getElem_cons (by rw [Array.length_toList]; exact lt), Array.getElem_toList]
    rw [e, List.take_succ_cons] at q1
    exact q1
theorem unpack_lst {l : Addr} {xs : Array Value} {Q : List Value → Shared → Prop} (hh : A.handled = none) (hl : s.heap.IsList l xs)
    (q : ∀ h', Heap.ExtBut s.heap.objs.size s.heap h' → Q xs.toList { s with heap := h' }) : wpAny (model prog w) A (unpackItems (.ref l) xs.size none) Q E s := by
  have ne : l ≠ s.heap.objs.size := by
    obtain ⟨o, ho, _⟩ := hl
    exact Nat.ne_of_lt (Heap.lt_size ho)
  unfold unpackItems notIterableAtAll
  refine wpAny_bind (wpAny_bind (wpAny_specialOf hl.typeIs slot_list_iter.lookup (wpAny_pure ?_)))
  simp only [Bool.false_eq_true, if_false]
  refine wpAny_bind (wpAny_holding (wpAny_pyIter_list hl ?_))
  refine wpAny_bind (wpAny_holding (draw_lst ne xs.size 0 _ _ ⟨_, Heap.get?_push_size _ rfl, rfl, rfl⟩ (hl.push _) (by omega) fun h1 hi1 sb1 => ?_))
  have all : (xs.toList.drop 0).take xs.size = xs.toList   := by
    rw [List.drop_zero]
    exact List.take_of_length_le (Nat.le_of_eq Array.length_toList)
  rw [all, if_neg (by simp)]
  refine wpAny_bind (wpAny_holding (wpAny_pyNext_list_end hh hi1 (iter_same (hl.push _) sb1 ne) (by simp) fun h2 he => ?_))
  simp only [Option.isSome_none, Bool.false_eq_true, if_false]
  exact wpAny_pure (q h2 fun b o nb e => he b o nb (sb1.extBut b o nb (Heap.get?_push_of_some _ e)))
theorem assign_lst {env : Env} {elts : List Expr} {x1} {pos : Pos} {l : Addr} {xs : Array Value} {Q : Unit → Shared → Prop} (hh : A.handled = none) (hl : s.heap.IsList l xs) (hn : (assignEach elts env).length = xs.size) (hst : (assignEach elts env).findIdx? (·.1) = none)
    (h : ∀ h', Heap.ExtBut s.heap.objs.size s.heap h' → wpAny (model prog w) A (assignInOrder ((assignEach elts env).map (·.2)) xs.toList) Q E { s with heap := h' }) : wpAny (model prog w) A (assign (.Tuple elts x1 pos) env (.ref l)) Q E s := by
  rw [assign_Tuple]
  refine wpAny_bind (wpAny_standAt ?_)
  unfold unpack
  rw [hn, hst]
  exact wpAny_bind (wpAny_holding (unpack_lst hh hl h))
end
/-- (a, b, ..) = a list of that length -/
def gLst (K : PySem.W.Frag) (n : Nat) (t : TGs) : TG := fun v σ H Q => ∃ a xs, v = .ref a ∧ SqL K H a xs ∧ xs.length = n ∧ t xs σ H Q
theorem pg_lst {X : Cx} {pos : Pos} {es : List Expr} {k : Nat} {t : TGs} {n : Nat} (hc : X.calm = true) (h : PGs X es t)
    (hn : (assignEach es X.env).length = n := by rfl) (hst : (assignEach es X.env).findIdx? (·.1) = none := by rfl) : PG X (.Tuple es k pos) (gLst X.K n t) := by
  refine ⟨fun pins s σ H v u Q I r hw => ?_⟩
  obtain ⟨a, xs, rfl, hq, hl, hw⟩ := hw
  obtain rfl : u = Value.ref a := r
  obtain ⟨its, rv, pl, _⟩ := I.list hq
  refine assign_lst (I.ok.hd hc) pl.isList (by rw [hn, ← hl, rv.length, List.size_toArray]) hst fun h' ex => ?_
  have I1 : Inv X pins σ H { s with heap := h' } := I.kept (t' := s.toks) fun b o e => ex b o (Nat.ne_of_lt (Heap.lt_size e)) e
  exact h.run pins _ σ H xs its Q I1 rv hw
end FL
/-! is_made, two_lots, stuck, hold_of. -/
set_option Elab.async false
set_option linter.all false
set_option maxRecDepth 1000000
set_option maxHeartbeats 8000000
namespace FL
open PySem PySem.Spec PyProof.Rows L2
theorem cast_perm {l : List Nat} {ys : List Int} (h : ys.Perm (castL l)) : ∃ l', ys = castL l' ∧ l'.Perm l := by
  have e : ys = castL (ys.map Int.toNat) := cast_of fun k hk => by
    obtain ⟨z, _, e⟩ := List.mem_map.mp (h.subset hk)
    omega
  refine ⟨_, e, ?_⟩
  have h2 := h.map Int.toNat
  rw [List.map_map] at h2
  have e2 : List.map (Int.toNat ∘ fun (k : Nat) => (k : Int)) l = l := by
    rw [show (Int.toNat ∘ fun (k : Nat) => (k : Int)) = id from by funext k; rfl, List.map_id]
  rwa [e2] at h2
theorem five_of {n g : Nat} {l : List Nat} (nd : l.Nodup) (lt : ∀ k, k ∈ l → k < n ∧ k ≠ g) (gn : g < n) (h6 : n ≤ 6) : l.length ≤ 5 := by
  have h := few (l := g :: l) (n := n) (List.nodup_cons.mpr ⟨fun q => (lt g q).2 rfl, nd⟩) fun k hk => by
    rcases List.mem_cons.mp hk with e | e
    · exact e ▸ gn
    · exact (lt k e).1
  rw [List.length_cons] at h
  omega
section
variable (P : Program) (w : World) {K : PySem.W.Frag} {mg : Str → Option Value} (base : Heap) {a : At}
def sp_is_made (K : PySem.W.Frag) (a : At) : Sp := fun vs H Q _ => ∃ (t lp : Addr) (T : Tab) (lot : List Nat) (g : Nat), vs = [.ref t, .ref lp, .int (g : Int)] ∧ TabAt K a.Rows H t T ∧ TabOk T ∧ SqL K H lp (ixs lot) ∧ lot.Nodup ∧ (∀ k, k ∈ lot → k < T.n ∧ k ≠ g) ∧ g < T.n ∧
  ∀ H' b, Same H H' → (b = true ↔ cl T.p T.vec (fun k => k ∈ lot) g) → Q (.bl b) H'
theorem ok_is_made (T : Tx K mg a) : Fn P w K mg base 7 a.is_made (sp_is_made K a) := by
  refine fn_d T.F_is_made sc_is_made (fun _ _ _ _ _ _ us hl => match us, hl with | [_, _, _], _ => rfl) (fun vs H Q E h => ?_) fun cdv A outer s H vs Q E hr h => ?_
  · obtain ⟨t, lp, T, lot, g, rfl, _⟩ := h
    rfl
  · obtain ⟨t, lp, Tb, lot, g, rfl, hT, O, hlp, nd, lt, gn, q⟩ := h
    refine ⟨_, pss_one (ps_ret (pe_cmpR op_notN (pe_meth (pe_meth (pv 0) T.c_Rows T.M_Rows_base_of (ok_Rows_base_of P w base T).ok (hr.mono (by decide)) (ok_Rows_base_of P w base T).b .nil pass0 (pa_cons (pe_callB cr_sorted (by rfl) T.b_sorted (by decide +kernel) (pa_cons (pv 1) pa_nil)) pa_nil)) T.c_Base T.M_Base_relation (ok_Base_relation P w base T).ok (hr.mono (by decide)) (ok_Base_relation P w base T).b .nil pass0 (pa_cons (pv 2) pa_nil)) pe_non (nomark _))), ?_⟩
    obtain ⟨dt, ro, ras, ht, _⟩ := id hT.ob
    have l5 : lot.length ≤ 5 := five_of nd lt gn O.n6
    refine ⟨_, rfl, t, dt, _, rfl, ht, rfl, _, rfl, lp, castL lot, rfl, by rw [ixs_cast]; exact hlp, by rw [List.length_map]; omega, fun ys p pm _ hp => ?_⟩
    obtain ⟨lot', rfl, pm'⟩ := cast_perm pm
    have s1 := same_upd (o := .lst ((castL lot').map V.int)) hp
    have nd' := pm'.nodup_iff.mpr nd
    have lt' : ∀ k, k ∈ lot' → k < Tb.n ∧ k ≠ g := fun k hk => lt k (pm'.subset hk)
    refine ⟨t, p, Tb, lot', rfl, hT.same s1, O, by rw [← ixs_cast]; exact SqL.of upd_same, nd', fun k hk => (lt' k hk).1, by rw [pm'.length_eq]; exact l5, fun H2 b l S s2 nb nl hB el s5 => ?_⟩
    obtain ⟨db, hb⟩ := hB.ob
    have hiff : cl Tb.p Tb.vec (fun k => k ∈ lot') g ↔ cl Tb.p Tb.vec (fun k => k ∈ lot) g := ⟨fun c => (cl_clo (fld_mem O.fp) Tb.vec).mono (fun x hx => pm'.subset hx) c, fun c => (cl_clo (fld_mem O.fp) Tb.vec).mono (fun x hx => pm'.symm.subset hx) c⟩
    refine ⟨b, db, _, rfl, hb, rfl, _, rfl, b, t, l, Tb, lot', S, g, rfl, ⟨hB, O, el, s5, fun k hk => (lt' k hk).1, gn, fun h => (lt' g h).2 rfl⟩, fun H3 s3 nc => ?_, fun H3 d Z c s3 nd3 gd R => ?_⟩
    · exact ⟨rfl, q _ false (s1.trans (s2.trans s3)) ⟨fun h => (by cases h), fun h => absurd (hiff.mpr h) nc⟩⟩
    · refine ⟨rfl, q _ true (s1.trans (s2.trans s3)) ⟨fun _ => hiff.mp ?_, fun _ => rfl⟩⟩
      have mk := R.made (fun k hk => (R.sub k hk).elim (fun h => (lt' k h).1) fun h => h ▸ gn) R.self
      exact (cl_clo (fld_mem O.fp) Tb.vec).mono (fun k hk => (R.sub k hk.1).resolve_right hk.2) mk
/-- what the two lots are asked of -/
structure FreeOk (T : Tab) (g : Nat) (Kp free : List Nat) : Prop where
  cop : CopOk T g Kp free
  nf : free.Nodup
  f5 : free.length ≤ 5
def sp_two_lots (K : PySem.W.Frag) (a : At) : Sp := fun vs H Q _ => ∃ t kp fp T g Kp free, vs = [.ref t, .ref kp, .ref fp] ∧ TabAt K a.Rows H t T ∧ SqL K H kp (ixs Kp) ∧ SqL K H fp (ixs free) ∧ FreeOk T g Kp free ∧
  ∀ H' pl kl A B c p q la lb, Same H H' → PlAt K a H' pl kl A B c t p q T Kp free la lb → LotsOk (plC T Kp free) free.length la lb → Q (.ref pl) H'
theorem ok_two_lots (T : Tx K mg a) : Fn P w K mg base 12 a.two_lots (sp_two_lots K a) := by
  refine fn_d T.F_two_lots sc_two_lots (fun _ _ _ _ _ _ us hl => match us, hl with | [_, _, _], _ => rfl) (fun vs H Q E h => ?_) fun cdv A outer s H vs Q E hr h => ?_
  · obtain ⟨t, kp, fp, T, g, Kp, free, rfl, _⟩ := h
    rfl
  · obtain ⟨t, kp, fp, Tb, g, Kp, free, rfl, hT, hkp, hfp, FO, qq⟩ := h
    refine ⟨_, pss_cons (ps_set (i := 3) sc_two_lots.nd rfl (by first | exact Or.inl rfl | exact Or.inr rfl) (pe_make T.k_Copies (ok_Copies_init P w base T).ok (hr.mono (by decide)) (by rfl) T.gC_Copies (ok_Copies_init P w base T).b .nil pass0 (pa_cons (pv 0) (pa_cons (pv 2) (pa_cons (pv 1) pa_nil)))))
        (pss_cons (ps_set (i := 4) sc_two_lots.nd rfl (by first | exact Or.inl rfl | exact Or.inr rfl) (pe_make T.k_Places (ok_Places_init P w base T).ok (hr.mono (by decide)) (by rfl) T.gC_Places (ok_Places_init P w base T).b .nil pass0 (pa_cons (pe_op op_rep (pe_lst (pa_cons (pv 3) pa_nil)) pe_int) (pa_cons (pe_op op_rep (pe_lst (pa_cons (pe_callB call_len_seq (by rfl) T.b_len PySem.boot_len (pa_cons (pv 2) pa_nil)) pa_nil)) pe_int) (pa_cons (pe_lst (pa_cons (pe_lst pa_nil) (pa_cons (pe_lst pa_nil) pa_nil))) pa_nil)))))
        (pss_cons (ps_for PassesOwn.never rfl (pi_range1 (by rfl) T.b_range (pa_cons (pe_callB call_len_seq (by rfl) T.b_len PySem.boot_len (pa_cons (pv 2) pa_nil)) pa_nil)) (pg_name (i := 5) sc_two_lots.nd rfl (by first | exact Or.inl rfl | exact Or.inr rfl)) (pss_one (ps_expr (pe_meth (pv 4) T.c_Places T.M_Places_put (ok_Places_put P w base T).ok (hr.mono (by decide)) (ok_Places_put P w base T).b .nil pass0 (pa_cons (pv 5) pa_nil)))))
        (pss_one (ps_ret (pv 4))))), ?_⟩
    obtain ⟨C, nf, f5⟩ := FO
    have hcl := plC_clo C
    refine ⟨_, rfl, _, rfl, _, rfl, fun c dc hn hdn hne => ?_⟩
    have n0 : Same H (upd (upd H dc (.own c)) c (.ins a.Copies dc [])) := (same_upd hdn).trans (same_upd (by rw [upd_ne hne.symm]; exact hn))
    refine ⟨c, dc, t, fp, kp, Tb, Kp, free, rfl, upd_same, hT.same n0, same_lst n0 hfp, same_lst n0 hkp, fun H1 p q np nq old hC => ⟨rfl, ?_⟩⟩
    have s1 : Same H H1 := fun x o e => old _ _ (n0 _ _ e) (ne_of_none e hn)
    -- the places' parts
    refine ⟨_, rfl, (by show 1 ≤ sizeLine; decide), fun x0 hx0 => ⟨x0, 2, _, rfl, rfl, upd_same, by decide, by decide, Nat.le_of_ble_eq_true rfl, fun tl htl => ?_⟩⟩
    have s2 := (same_upd (o := .lst [.ref c]) hx0).trans (same_upd (o := .lst [.ref c, .ref c]) htl)
    have lf : (ixs free).length = free.length := List.length_map _
    refine ⟨_, rfl, fp, _, rfl, .inl (same_lst (s1.trans s2) hfp), (by show 1 ≤ sizeLine; decide), fun x1 hx1 => ⟨x1, 2, [.int (free.length : Nat)], rfl, rfl, by rw [upd_same, lf], by decide, by decide, Nat.le_of_ble_eq_true rfl, fun sl hsl => ?_⟩⟩
    have s3 := (same_upd (o := .lst [.int ((ixs free).length : Nat)]) hx1).trans (same_upd (o := .lst [.int (free.length : Nat), .int (free.length : Nat)]) hsl)
    refine ⟨Nat.zero_le _, fun X0 hX0 => ⟨Nat.zero_le _, fun Y0 hY0 => ⟨(by show 2 ≤ sizeLine; decide), fun ll hll => ?_⟩⟩⟩
    have s4 := same_upd (o := .lst []) hX0
    have s5 := same_upd (o := .lst []) hY0
    have s6 := same_upd (o := .lst [.ref X0, .ref Y0]) hll
    intro pl dp hpn hpdn hpne
    have s7 := (same_upd (o := .own pl) hpdn).trans (same_upd (o := .ins a.Places dp []) (by rw [upd_ne hpne.symm]; exact hpn))
    have s47 := s4.trans (s5.trans (s6.trans s7))
    have s27 := s2.trans (s3.trans s47)
    refine ⟨pl, dp, tl, sl, ll, X0, Y0, c, t, p, q, Tb, Kp, free, [], [], rfl, upd_same, s3.trans s47 _ _ upd_same, s47 _ _ upd_same, s7 _ _ upd_same, s5.trans (s6.trans s7) _ _ upd_same, s6.trans s7 _ _ upd_same, hC.same s27, fun H2 kl A1 B1 nA nB old2 hP => ⟨rfl, ?_⟩⟩
    have pln : H pl = none := (s1.trans (s2.trans (s3.trans (s4.trans (s5.trans s6))))).free hpn
    have sH2 : Same H H2 := fun x o e => old2 _ _ (s27 _ _ (s1 _ _ e)) (ne_of_none e pln)
    have nA0 : H A1 = none := s1.free (s27.free nA)
    have nB0 : H B1 = none := s1.free (s27.free nB)
    refine ⟨_, rfl, fp, _, rfl, .inl (same_lst sH2 hfp), ((free.length : Nat) : Int), by rw [lf], by omega, by omega, ?_⟩
    refine for_it (walk_range (lo := 0) (n := free.length)) (fun i σ H' => ∃ (y5 : Option V) (la lb : List Nat), σ = [some (.ref t), some (.ref kp), some (.ref fp), some (.ref c), some (.ref pl), y5] ∧ Same H H' ∧ PlAt K a H' pl kl A1 B1 c t p q Tb Kp free la lb ∧ LotsOk (plC Tb Kp free) i la lb) ?_ (fun i σ H' _ _ => trivial) (fun i z σ H3 H4 hi hQ hy => ?_) fun σ H3 hQ => ?_
    · exact ⟨none, [], [], rfl, sH2, hP, lots_start⟩
    · obtain ⟨y5, la, lb, rfl, s3', hP3, LO⟩ := hQ
      obtain ⟨rfl, hz⟩ := hy
      obtain rfl : z = .int (i : Int) := by rw [hz]; show V.int (0 + (i : Int)) = _; rw [Int.zero_add]
      obtain ⟨dx, _, _, hpl, _⟩ := hP3.ob
      refine ⟨_, rfl, pl, dx, _, rfl, hpl, rfl, _, rfl, pl, kl, A1, B1, c, t, p, q, Tb, g, Kp, free, la, lb, i, rfl, hP3, C, hi, LO, fun H5 r la' lb' oth hP5 LO5 => ?_⟩
      exact ⟨_, la', lb', rfl, fun x o e => oth _ _ (s3' _ _ e) (ne_of_none e nA0) (ne_of_none e nB0), hP5, LO5⟩
    · obtain ⟨y5, la, lb, rfl, s3', hP3, LO⟩ := hQ
      exact ⟨_, rfl, qq _ pl kl A1 B1 c p q la lb s3' hP3 LO⟩
def sp_stuck (K : PySem.W.Frag) (a : At) : Sp := fun vs H Q _ => ∃ t kp fp T g Kp free, vs = [.ref t, .ref kp, .ref fp] ∧ TabAt K a.Rows H t T ∧ SqL K H kp (ixs Kp) ∧ SqL K H fp (ixs free) ∧ FreeOk T g Kp free ∧
  ∀ H' r pl kl A B c p q la lb fo found, Same H H' → H' r = some (.tup [.ref pl, .ref fo]) → PlAt K a H' pl kl A B c t p q T Kp free la lb → LotsOk (plC T Kp free) free.length la lb → H' fo = some (.lst (ixs found)) → found.Nodup → (∀ k, k ∈ found → k ∈ free) →
    (∀ r, r ∈ found ↔ ∃ t, t < free.length ∧ fr free t = r ∧ ∃ R, Tight (plC T Kp free) (lotsOf la lb) R ∧ R t) → Q (.ref r) H'
theorem ok_stuck (T : Tx K mg a) : Fn P w K mg base 13 a.stuck (sp_stuck K a) := by
  refine fn_d T.F_stuck sc_stuck (fun _ _ _ _ _ _ us hl => match us, hl with | [_, _, _], _ => rfl) (fun vs H Q E h => ?_) fun cdv A outer s H vs Q E hr h => ?_
  · obtain ⟨t, kp, fp, T, g, Kp, free, rfl, _⟩ := h
    rfl
  · obtain ⟨t, kp, fp, Tb, g, Kp, free, rfl, hT, hkp, hfp, FO, qq⟩ := h
    refine ⟨_, pss_cons (ps_set (i := 3) sc_stuck.nd rfl (by first | exact Or.inl rfl | exact Or.inr rfl) (pe_call (ok_two_lots P w base T).ok (hr.mono (by decide)) (by rfl) T.g_two_lots (ok_two_lots P w base T).kp (ok_two_lots P w base T).b .nil pass0 (pa_cons (pv 0) (pa_cons (pv 1) (pa_cons (pv 2) pa_nil)))))
        (pss_cons (ps_set (i := 4) sc_stuck.nd rfl (by first | exact Or.inl rfl | exact Or.inr rfl) (pe_lst pa_nil))
        (pss_cons (ps_for PassesOwn.never rfl (pi_range1 (by rfl) T.b_range (pa_cons (pe_callB call_len_seq (by rfl) T.b_len PySem.boot_len (pa_cons (pv 2) pa_nil)) pa_nil)) (pg_name (i := 5) sc_stuck.nd rfl (by first | exact Or.inl rfl | exact Or.inr rfl)) (pss_cons (ps_set (i := 6) sc_stuck.nd rfl (by first | exact Or.inl rfl | exact Or.inr rfl) (pe_make T.k_Copies (ok_Copies_init P w base T).ok (hr.mono (by decide)) (by rfl) T.gC_Copies (ok_Copies_init P w base T).b .nil pass0 (pa_cons (pv 0) (pa_cons (pe_lst (StX.pa_star (pv 2) (pa_cons (pe_ix ix_list (pv 2) (pv 5) (fun _ _ => rfl)) pa_nil))) (pa_cons (pv 1) pa_nil)))))
        (pss_cons (ps_set (i := 7) sc_stuck.nd rfl (by first | exact Or.inl rfl | exact Or.inr rfl) (pe_make T.k_Places (ok_Places_init P w base T).ok (hr.mono (by decide)) (by rfl) T.gC_Places (ok_Places_init P w base T).b .nil pass0 (pa_cons (pe_op op_rep (pe_lst (pa_cons (pv 6) pa_nil)) pe_int) (pa_cons (pe_op op_rep (pe_lst (pa_cons (pe_op op_add (pe_callB call_len_seq (by rfl) T.b_len PySem.boot_len (pa_cons (pv 2) pa_nil)) pe_int) pa_nil)) pe_int) (pa_cons (pe_fld (pv 3) rfl) pa_nil)))))
        (pss_one (ps_if (pt_cmpR op_isN (pe_ix ix_tup (pe_meth (pv 7) T.c_Places T.M_Places_reached_from (ok_Places_reached_from P w base T).ok (hr.mono (by decide)) (ok_Places_reached_from P w base T).b .nil pass0 (pa_cons (pe_lst (pa_cons (pe_callB call_len_seq (by rfl) T.b_len PySem.boot_len (pa_cons (pv 2) pa_nil)) pa_nil)) pa_nil)) pe_int (fun _ _ => rfl)) pe_non (nomark _)) (pss_one (ps_expr (pe_bm PySem.F.plainAttrs_list PySem.F.slot_list_append PySem.F.type_list_append mt_append (pv 4) (pa_cons (pe_ix ix_list (pv 2) (pv 5) (fun _ _ => rfl)) pa_nil)))) pss_nil)))))
        (pss_one (ps_ret (pe_tup (pa_cons (pv 3) (pa_cons (pv 4) pa_nil))))))), ?_⟩
    obtain ⟨C, nf, f5⟩ := id FO
    have hcl := plC_clo C
    have lf : (ixs free).length = free.length := List.length_map _
    refine ⟨_, rfl, _, rfl, _, rfl, t, kp, fp, Tb, g, Kp, free, rfl, hT, hkp, hfp, FO, fun H1 pl kl A1 B1 c p q la lb s1 hP LO => ?_⟩
    refine ⟨Nat.zero_le _, fun fo hfo => ?_⟩
    have s2 := same_upd (o := .lst []) hfo
    refine ⟨_, rfl, fp, _, rfl, .inl (same_lst (s1.trans s2) hfp), ((free.length : Nat) : Int), by rw [lf], by omega, by omega, ?_⟩
    refine for_it (walk_range (lo := 0) (n := free.length)) (fun i σ H' => ∃ (y5 y6 y7 : Option V) (found : List Nat), σ = [some (.ref t), some (.ref kp), some (.ref fp), some (.ref pl), some (.ref fo), y5, y6, y7] ∧ Same H1 H' ∧ H' fo = some (.lst (ixs found)) ∧ found.Nodup ∧ found.length ≤ i ∧
      ∀ r, r ∈ found ↔ ∃ t, t < i ∧ fr free t = r ∧ ∃ R, Tight (plC Tb Kp free) (lotsOf la lb) R ∧ R t) ?_ (fun i σ H' _ _ => trivial) (fun i z σ H3 H4 hi hQ hy => ?_) fun σ H3 hQ => ?_
    · exact ⟨none, none, none, [], rfl, s2, upd_same, List.nodup_nil, Nat.zero_le _, fun r => ⟨fun h => by simp at h, fun ⟨t, h, _⟩ => by omega⟩⟩
    · obtain ⟨y5, y6, y7, found, rfl, s3, gfo, nfo, lfo, mfo⟩ := hQ
      obtain ⟨rfl, hz⟩ := hy
      obtain rfl : z = .int (i : Int) := by rw [hz]; show V.int (0 + (i : Int)) = _; rw [Int.zero_add]
      have sH3 := s1.trans s3
      have nfo1 : H1 fo = none := hfo
      -- the rows with one twice
      have hix : atI (ixs free) (i : Int) = some (.int (fr free i : Nat)) := at_nat (at_map (fun (k : Nat) => V.int (k : Int)) (fr_at hi))
      let rows' := free ++ [fr free i]
      have er : ixs free ++ [V.int (fr free i : Nat)] = ixs rows' := by show _ = ixs (free ++ [fr free i]); unfold ixs; rw [List.map_append]; rfl
      have rl : rows'.length = free.length + 1 := by show (free ++ [fr free i]).length = _; rw [List.length_append]; rfl
      have hf : ∀ z, z < free.length → fr rows' z = fr free z := fun z hz => by
        show (free ++ [fr free i]).getD z 0 = free.getD z 0
        rw [List.getD_eq_getElem?_getD, List.getD_eq_getElem?_getD, List.getElem?_append_left hz]
      have hx : fr rows' free.length = fr free i := by
        show (free ++ [fr free i]).getD free.length 0 = _
        rw [List.getD_eq_getElem?_getD, List.getElem?_append_right (Nat.le_refl _), Nat.sub_self]
        rfl
      have C' : CopOk Tb g Kp rows' := ⟨C.ok, C.kn, C.kl, fun r hr => by
        rcases List.mem_append.mp hr with h | h
        · exact C.rl r h
        · rw [List.mem_singleton] at h
          exact h ▸ C.rl _ (fr_mem hi), C.gn, by rw [rl]; omega⟩
      have hlt : ∀ n z, z ∈ two la lb n → z < free.length := LO.lt
      have L' : ∀ k, LotOk Tb Kp rows' (two la lb k) := fun k => ⟨by
        match k with
        | 0 => exact LO.nda
        | 1 => exact LO.ndb
        | _ + 2 => exact List.nodup_nil, fun s hs => by rw [rl]; have := hlt k s hs; omega, fun x hx c => LO.ind k x hx (pull_congr (cl_clo (fld_mem C.ok.fp) Tb.vec) (fun s hs => hf s (hlt k s hs.1)) (hf x (hlt k x hx)) c)⟩
      refine ⟨_, rfl, _, rfl, fp, _, rfl, .inr (same_lst sH3 hfp), _, rfl, _, rfl, fp, _, _, _, rfl, rfl, same_lst sH3 hfp, hix, ?_⟩
      refine ⟨by rw [er, List.length_map, rl]; exact Nat.le_trans (show _ ≤ 6 by omega) (by decide), fun l1 hl1 => ?_⟩
      rw [er]
      have s4 := same_upd (o := .lst (ixs rows')) hl1
      refine ⟨_, rfl, fun c2 dc hn hdn hne => ?_⟩
      have n1 := (same_upd (o := .own c2) hdn).trans (same_upd (o := .ins a.Copies dc []) (by rw [upd_ne hne.symm]; exact hn))
      have n0 := s4.trans n1
      refine ⟨c2, dc, t, l1, kp, Tb, Kp, rows', rfl, upd_same, (hT.same sH3).same n0, SqL.of (n1 _ _ upd_same), same_lst n0 (same_lst sH3 hkp), fun H5 p2 q2 np nq old hC => ⟨rfl, ?_⟩⟩
      have c2n : H4 c2 = none := s4.free hn
      have s5 : Same H4 H5 := fun x o e => old _ _ (n0 _ _ e) (ne_of_none e c2n)
      have sH5 := sH3.trans s5
      refine ⟨_, rfl, (by show 1 ≤ sizeLine; decide), fun x0 hx0 => ⟨x0, 2, _, rfl, rfl, upd_same, by decide, by decide, Nat.le_of_ble_eq_true rfl, fun tl htl => ?_⟩⟩
      have s6 := (same_upd (o := .lst [.ref c2]) hx0).trans (same_upd (o := .lst [.ref c2, .ref c2]) htl)
      refine ⟨_, rfl, fp, _, rfl, .inl (same_lst (sH5.trans s6) hfp), _, _, rfl, rfl, (by show 1 ≤ sizeLine; decide), fun x1 hx1 => ⟨x1, 2, [.int (rows'.length : Nat)], rfl, rfl, by rw [upd_same, lf, rl]; rfl, by decide, by decide, Nat.le_of_ble_eq_true rfl, fun sl hsl => ?_⟩⟩
      have s7 := (same_upd (o := .lst [.int (((ixs free).length : Nat) + 1)]) hx1).trans (same_upd (o := .lst [.int (rows'.length : Nat), .int (rows'.length : Nat)]) hsl)
      have s67 := s6.trans s7
      obtain ⟨dpl, tl0, sl0, hpl, htl0, hsl0, _⟩ := hP.ob
      have s37 := s3.trans (s5.trans s67)
      refine ⟨_, rfl, pl, _, dpl, _, _, rfl, s37 _ _ hpl, T.c_Places, T.n_Places_kept, rfl, ?_⟩
      intro pd dp hpn hpdn hpne
      have s8 := (same_upd (o := .own pd) hpdn).trans (same_upd (o := .ins a.Places dp []) (by rw [upd_ne hpne.symm]; exact hpn))
      have s38 := s37.trans s8
      refine ⟨pd, dp, tl, sl, kl, A1, B1, c2, t, p2, q2, Tb, Kp, rows', la, lb, rfl, upd_same, s7.trans s8 _ _ upd_same, s8 _ _ upd_same, s38 _ _ hP.hk, s38 _ _ hP.hA, s38 _ _ hP.hB, hC.same (s67.trans s8), fun H6 kl2 A2 B2 nA nB old2 hP2 => ⟨rfl, ?_⟩⟩
      have pdn : H1 pd = none := s37.free hpn
      have s36 : Same H1 H6 := fun x o e => old2 _ _ (s38 _ _ e) (ne_of_none e pdn)
      obtain ⟨d2, tl2, sl2, hpd2, _⟩ := id hP2.ob
      have gfo6 : H6 fo = some (.lst (ixs found)) := old2 _ _ ((s5.trans (s67.trans s8)) _ _ gfo) fun e => by
        rw [e] at gfo
        exact nomatch (hpn.symm.trans (s5.trans s67 _ _ gfo))
      -- who is reached
      have inew : fr free i ∉ found := fun h => by
        obtain ⟨t2, h1, h2, _⟩ := (mfo _).mp h
        have e1 := fr_at (show t2 < free.length by have : i < free.length := hi; omega)
        have e2 := fr_at (show i < free.length from hi)
        rw [h2] at e1
        have := (List.getElem?_inj (show t2 < free.length by have : i < free.length := hi; omega) nf).mp (e1.trans e2.symm)
        omega
      have sH6 := s1.trans s36
      refine ⟨_, rfl, pd, d2, _, rfl, hpd2, rfl, _, rfl, fp, _, rfl, .inl (same_lst sH6 hfp), (by show 1 ≤ sizeLine; decide), fun sl3 hsl3 => ?_⟩
      have s9 := same_upd (o := .lst [.int ((ixs free).length : Nat)]) hsl3
      refine ⟨pd, kl2, A2, B2, c2, t, p2, q2, Tb, g, Kp, rows', la, lb, sl3, free.length, rfl, hP2.same s9, C', L', by rw [upd_same, lf], by rw [rl]; omega, fun H7 r d R s7' gr hR ndd I => ?_, fun H7 r d R u x y j t2 n o s7' gr gu hR ndd I hj hn room => ?_⟩
      · have D := copy_none (cl_clo (fld_mem C.ok.fp) Tb.vec) hlt hf hx hi I
        have s67' := s9.trans s7'
        refine ⟨r, _, _, _, rfl, rfl, SqT.of gr, at_nat (j := 1) (v := .non) rfl, rfl, _, rfl, itT rfl ?_⟩
        have gfo7 := s67' _ _ gfo6
        refine ⟨_, rfl, .inl ⟨rfl, _, SqL.of gfo7⟩, _, rfl, _, rfl, fp, _, _, _, rfl, rfl, same_lst (sH6.trans s67') hfp, hix, fo, _, _, rfl, rfl, gfo7, by rw [List.length_map]; exact Nat.lt_of_le_of_lt (show _ ≤ 5 by have : i < free.length := hi; omega) (by decide), ?_⟩
        have ea : ixs found ++ [V.int (fr free i : Nat)] = ixs (found ++ [fr free i]) := by unfold ixs; rw [List.map_append]; rfl
        rw [ea]
        refine ⟨_, _, _, found ++ [fr free i], rfl, same_chg (s36.trans s67') nfo1, upd_same, List.nodup_append.mpr ⟨nfo, by simp, fun x hx y hy e => by rw [List.mem_singleton] at hy; subst hy; subst e; exact inew hx⟩, by rw [List.length_append]; exact Nat.succ_le_succ lfo, fun r2 => ?_⟩
        rw [List.mem_append, List.mem_singleton, mfo]
        constructor
        · rintro (⟨t3, h1, h2⟩ | h)
          · exact ⟨t3, by omega, h2⟩
          · exact ⟨i, by omega, h.symm, D⟩
        · rintro ⟨t3, h1, h2, h3⟩
          by_cases e : t3 = i
          · subst e
            exact .inr h2.symm
          · exact .inl ⟨t3, by omega, h2, h3⟩
      · have nD : ∀ R2, Tight (plC Tb Kp free) (lotsOf la lb) R2 → R2 i → False := fun R2 T2 h2 => copy_some (cl_clo (fld_mem C.ok.fp) Tb.vec) hlt hf hx I hj hn room T2 h2
        have s67' := s9.trans s7'
        refine ⟨r, _, _, _, rfl, rfl, SqT.of gr, at_nat (j := 1) (v := .ref u) rfl, rfl, _, rfl, itF rfl ?_⟩
        refine ⟨_, _, _, found, rfl, s36.trans s67', s67' _ _ gfo6, nfo, by omega, fun r2 => ?_⟩
        rw [mfo]
        constructor
        · rintro ⟨t3, h1, h2⟩
          exact ⟨t3, by omega, h2⟩
        · rintro ⟨t3, h1, h2, R2, h3, h4⟩
          by_cases e : t3 = i
          · subst e
            exact absurd h4 (nD R2 h3)
          · exact ⟨t3, by omega, h2, R2, h3, h4⟩
    · obtain ⟨y5, y6, y7, found, rfl, s3, gfo, nfo, lfo, mfo⟩ := hQ
      refine ⟨_, rfl, _, rfl, (by show 2 ≤ sizeLine; decide), fun r hr => ?_⟩
      have s4 := same_upd (o := .tup [.ref pl, .ref fo]) hr
      refine qq _ r pl kl A1 B1 c p q la lb fo found (s1.trans (s3.trans s4)) upd_same (hP.same (s3.trans s4)) LO (s4 _ _ gfo) nfo (fun k hk => ?_) mfo
      obtain ⟨t, ht, e, _⟩ := (mfo k).mp hk
      exact e ▸ fr_mem ht
def sp_hold_of (K : PySem.W.Frag) (a : At) : Sp := fun vs H Q _ => ∃ t kp fp T g Kp free, vs = [.ref t, .int (g : Nat), .ref kp, .ref fp] ∧ TabAt K a.Rows H t T ∧ SqL K H kp (ixs Kp) ∧ SqL K H fp (ixs free) ∧ FreeOk T g Kp free ∧
  ¬ cl T.p T.vec (fun k => k ∈ Kp) g ∧ cl T.p T.vec (fun k => k ∈ Kp ∨ k ∈ free) g ∧
  (∀ H', Same H H' → (∀ n, free.length ≤ n → ¬ Win (cl T.p T.vec) g n (fun k => k ∈ Kp) (fun k => k ∈ free) false) → Q .non H') ∧
  ∀ H' r, Same H H' → (∀ n, free.length ≤ n → Win (cl T.p T.vec) g n (fun k => k ∈ Kp) (fun k => k ∈ free) false) → Q (.ref r) H'
theorem ok_hold_of (T : Tx K mg a) : Fn P w K mg base 14 a.hold_of (sp_hold_of K a) := by
  refine fn_d T.F_hold_of sc_hold_of (fun _ _ _ _ _ _ us hl => match us, hl with | [_, _, _, _], _ => rfl) (fun vs H Q E h => ?_) fun cdv A outer s H vs Q E hr h => ?_
  · obtain ⟨t, kp, fp, T, g, Kp, free, rfl, _⟩ := h
    rfl
  · obtain ⟨t, kp, fp, Tb, g, Kp, free, rfl, hT, hkp, hfp, FO, nk, nl, qn, qs⟩ := h
    refine ⟨_, pss_cons (ps_asg (pe_call (ok_stuck P w base T).ok (hr.mono (by decide)) (by rfl) T.g_stuck (ok_stuck P w base T).kp (ok_stuck P w base T).b .nil pass0 (pa_cons (pv 0) (pa_cons (pv 2) (pa_cons (pv 3) pa_nil)))) (pg_tup rfl (pgs_cons (pg_name (i := 4) sc_hold_of.nd rfl (by first | exact Or.inl rfl | exact Or.inr rfl)) (pgs_cons (pg_name (i := 5) sc_hold_of.nd rfl (by first | exact Or.inl rfl | exact Or.inr rfl)) pgs_nil))))
        (pss_cons (ps_if (pt_not (pt_val (pe_call (ok_is_made P w base T).ok (hr.mono (by decide)) (by rfl) T.g_is_made (ok_is_made P w base T).kp (ok_is_made P w base T).b .nil pass0 (pa_cons (pv 0) (pa_cons (pe_lst (StX.pa_star (pv 2) (StX.pa_star (pv 5) pa_nil))) (pa_cons (pv 1) pa_nil)))))) (pss_one (ps_ret pe_non)) pss_nil)
        (pss_cons (ps_asg (pe_lc (own := [("lot", 8)]) rfl sc_hold_of.nd (pi_list (pe_meth0 (pv 4) T.c_Places T.M_Places_told (ok_Places_told P w base T).ok (hr.mono (by decide)) (ok_Places_told P w base T).b .nil pass0)) (blkOk_by (N := ["table", "goal", "kept", "free", "places", "rows", "one", "two", "lot", "thing"]) (sc := defScope s_hold_of) (by decide +kernel)) (fun _ _ _ _ _ => (pg_name (i := 8) sc_hold_of.nd rfl (by first | exact Or.inl rfl | exact Or.inr rfl))) (fun _ _ _ _ _ => pts_nil) (fun _ _ _ _ _ => (pe_callB (cr_sortedK (K := K)) (by rfl) T.b_sorted (by decide +kernel) (pa_cons (pe_lc (own := [("thing", 9)]) rfl sc_hold_of.nd (pi_listK (K := K) (pv 8)) (blkOk_by (by rfl)) (fun _ _ _ _ _ => (pg_name (i := 9) sc_hold_of.nd rfl (by first | exact Or.inl rfl | exact Or.inr rfl))) (fun _ _ _ _ _ => (pts_one (pt_cmpR (op_in_seqK (K := K)) (pe_ix (ix_listK (K := K)) (pv 3) (pv 9) (fun _ _ => rfl)) (pv 5) (by with_unfolding_all rfl)))) (fun _ _ _ _ _ => (pe_ix (ix_listK (K := K)) (pv 3) (pv 9) (fun _ _ => rfl)))) pa_nil)))) (pg_lst rfl (pgs_cons (pg_name (i := 6) sc_hold_of.nd rfl (by first | exact Or.inl rfl | exact Or.inr rfl)) (pgs_cons (pg_name (i := 7) sc_hold_of.nd rfl (by first | exact Or.inl rfl | exact Or.inr rfl)) pgs_nil))))
        (pss_one (ps_ret (pe_tup (pa_cons (pv 6) (pa_cons (pv 7) pa_nil))))))), ?_⟩
    obtain ⟨C, nf, f5⟩ := id FO
    have hcl := cl_clo (fld_mem C.ok.fp) Tb.vec
    have lf : (ixs free).length = free.length := List.length_map _
    refine ⟨_, rfl, _, rfl, _, rfl, t, kp, fp, Tb, g, Kp, free, rfl, hT, hkp, hfp, FO, fun H1 r pl kl A1 B1 c p q la lb fo found s1 gr hP LO gfo nfo ffo mfo => ?_⟩
    refine ⟨r, _, rfl, SqT.of gr, rfl, _, _, rfl, _, _, rfl, rfl, ?_⟩
    have gfr : ∀ r, r ∈ free → r < Tb.n ∧ r ≠ g ∧ r ∉ Kp := C.rl
    have word : ∀ n, free.length ≤ n → (cl Tb.p Tb.vec (fun z => z ∈ Kp ∨ z ∈ found) g ↔ Win (cl Tb.p Tb.vec) g n (fun k => k ∈ Kp) (fun k => k ∈ free) false) := fun n hn => hold_word hcl nf hn (fun h => (gfr g h).2.1 rfl) nk nl LO mfo
    refine ⟨_, rfl, _, rfl, kp, _, rfl, .inr (same_lst s1 hkp), _, rfl, fo, _, rfl, .inr (SqL.of gfo), ?_⟩
    have ea : ixs Kp ++ (ixs found ++ []) = ixs (Kp ++ found) := by rw [List.append_nil]; unfold ixs; rw [List.map_append]
    have ndl : (Kp ++ found).Nodup := List.nodup_append.mpr ⟨C.kn, nfo, fun x hx y hy e => (gfr y (ffo y hy)).2.2 (e ▸ hx)⟩
    have ltl : ∀ k, k ∈ Kp ++ found → k < Tb.n ∧ k ≠ g := fun k hk => by
      rcases List.mem_append.mp hk with h | h
      · exact C.kl k h
      · exact ⟨(gfr k (ffo k h)).1, (gfr k (ffo k h)).2.1⟩
    have l5 := five_of ndl ltl C.gn C.ok.n6
    refine ⟨by rw [ea, List.length_map]; exact Nat.le_trans l5 (by decide), fun l1 hl1 => ?_⟩
    rw [ea]
    have s2 := same_upd (o := .lst (ixs (Kp ++ found))) hl1
    have s12 := s1.trans s2
    refine ⟨_, rfl, t, l1, Tb, Kp ++ found, g, rfl, hT.same s12, C.ok, SqL.of upd_same, ndl, ltl, C.gn, fun H2 b s3 hb => ?_⟩
    have hb' : b = true ↔ cl Tb.p Tb.vec (fun z => z ∈ Kp ∨ z ∈ found) g := hb.trans ⟨fun c => hcl.mono (fun x hx => List.mem_append.mp hx) c, fun c => hcl.mono (fun x hx => List.mem_append.mpr hx) c⟩
    refine ⟨_, rfl, ?_⟩
    cases b with
    | false =>
      refine itT rfl ?_
      exact qn _ (s12.trans s3) fun n hn wn => by
        have := hb'.mpr ((word n hn).mpr wn)
        cases this
    | true =>
      refine itF rfl ?_
      have hw : ∀ n, free.length ≤ n → Win (cl Tb.p Tb.vec) g n (fun k => k ∈ Kp) (fun k => k ∈ free) false := fun n hn => (word n hn).mp (hb'.mp rfl)
      have s23 := s2.trans s3
      have hP2 := hP.same s23
      have s13 := s12.trans s3
      obtain ⟨dx, _, _, hpl, _⟩ := id hP2.ob
      have few2 : ∀ k, k < 2 → (two la lb k).length ≤ 5 := fun k hk => by
        refine Nat.le_trans (few ?_ (LO.lt k)) f5
        match k, hk with
        | 0, _ => exact LO.nda
        | 1, _ => exact LO.ndb
      refine ⟨_, rfl, pl, dx, _, rfl, hpl, rfl, pl, kl, A1, B1, c, t, p, q, Tb, Kp, free, la, lb, rfl, hP2, Nat.lt_of_le_of_lt (few2 0 (by decide)) (by decide), Nat.lt_of_le_of_lt (few2 1 (by decide)) (by decide), fun H3 r3 A3 B3 la' lb' s4 gr3 gA3 gB3 pa pb => ?_⟩
      have gfo3 := s4 _ _ (s23 _ _ gfo)
      have hfp3 := same_lst (s13.trans s4) hfp
      refine ⟨r3, rfl, ⟨_, SqL.of gr3⟩, fun D hD => ?_⟩
      refine lc_refs (walk_list (xs := [.ref A3, .ref B3])) (fun _ _ _ => True) hD (Nat.le_of_ble_eq_true rfl) (fun H5 s5 => SqL.of (s5 _ _ gr3)) (fun _ _ _ _ _ _ _ _ _ => trivial) (fun j z H5 H6 hj s5 hy _ take => ?_) fun H5 cs s5 hD5 hl nd hcs => ?_
      · obtain ⟨rfl, hz⟩ := hy
        have hj : j < 2 := hj
        obtain ⟨Aj, lj, rfl, gj, pj⟩ : ∃ Aj lj, z = .ref Aj ∧ H3 Aj = some (.lst (ixs lj)) ∧ lj.Perm (two la lb j) := by
          match j, hj, hz with
          | 0, _, hz => cases hz; exact ⟨A3, la', rfl, gA3, pa⟩
          | 1, _, hz => cases hz; exact ⟨B3, lb', rfl, gB3, pb⟩
        have ljl : lj.length ≤ 5 := by rw [pj.length_eq]; exact few2 j hj
        refine ⟨rfl, _, rfl, Aj, rfl, ⟨_, SqL.of (s5 _ _ gj)⟩, fun D2 hD2 => ?_⟩
        refine lc_w (walk_list (xs := ixs lj)) (fun i => lj[i]?.bind fun k => if decide (fr free k ∈ found) then some (.int (fr free k : Nat)) else none) hD2 (by rw [List.length_map]; omega) (fun H7 s7 => SqL.of (s7 _ _ (s5 _ _ gj))) (fun i z H7 H8 hi s7 hy take2 skip2 => ?_) fun H7 s7 hD7 => ?_
        · obtain ⟨rfl, hz⟩ := hy
          obtain ⟨k, hk, rfl⟩ := ix_at hz
          have hkl : k < free.length := LO.lt j k (pj.subset (List.mem_of_getElem? hk))
          have hix : atI (ixs free) (k : Int) = some (.int (fr free k : Nat)) := at_nat (at_map (fun (k : Nat) => V.int (k : Int)) (fr_at hkl))
          have hfp7 := same_lst (s5.trans s7) hfp3
          refine ⟨rfl, _, rfl, _, rfl, fp, _, _, _, rfl, rfl, hfp7, hix, _, rfl, fo, _, rfl, .inl (SqL.of (s7 _ _ (s5 _ _ gfo3))), rfl, flat_ixs _, _, rfl, ?_⟩
          show if (inV (.int ((fr free k : Nat) : Int)) (ixs found)) = true then _ else _
          rw [in_ixs]
          by_cases hin : fr free k ∈ found
          · exact itT (decide_eq_true hin) ⟨_, rfl, _, rfl, fp, _, _, _, rfl, rfl, hfp7, hix, take2 _ _ (by rw [hk]; show (if _ then _ else _) = some _; rw [decide_eq_true hin]; rfl) (Same.refl _)⟩
          · exact itF (decide_eq_false hin) (skip2 _ (by rw [hk]; show (if _ then _ else _) = none; rw [decide_eq_false hin]; rfl) (Same.refl _))
        · have lj' : (ixs lj).length = lj.length := List.length_map _
          rw [lj', range_fm lj fun k => if decide (fr free k ∈ found) then some (V.int (fr free k : Nat)) else none, fm_filter] at hD7
          have hD8 : H7 D2 = some (.lst ((castL ((lj.filter fun k => decide (fr free k ∈ found)).map (fr free))).map V.int)) := by
            rw [hD7, ixs_cast]
            unfold ixs
            rw [List.map_map]
            rfl
          refine ⟨D2, _, rfl, SqL.of hD8, ?_, fun ys p2 _ _ hp2 => ?_⟩
          · rw [List.length_map, List.length_map]
            exact Nat.lt_of_le_of_lt (List.length_filter_le _ _) (by omega)
          · have s8 := (same_upd (o := .lst []) hD2)
            exact take p2 _ trivial ((s7.free hp2) |> fun h => h) ⟨_, upd_same⟩ (s7.trans (same_upd hp2))
      · match cs, hl with
        | [A5, B5], _ =>
          refine ⟨D, _, rfl, SqL.of hD5, rfl, _, _, rfl, _, _, rfl, rfl, ?_⟩
          refine ⟨_, rfl, _, rfl, (by show 2 ≤ sizeLine; decide), fun r9 hr9 => ?_⟩
          exact qs _ r9 (s13.trans (s4.trans (s5.trans (same_upd hr9)))) hw
end
end FL
/-! Moment, Game. -/
set_option Elab.async false
set_option linter.all false
set_option maxRecDepth 1000000
set_option maxHeartbeats 8000000
namespace FL
open PySem PySem.Spec PyProof.Rows L2
abbrev handS (b : Bool) : Str := if b then "keep" else "cut"
structure MoOk (T : Tab) (g : Nat) (Kp cut free : List Nat) : Prop where
  fo : FreeOk T g Kp free
  cn : cut.Nodup
  part : Part (fun k => k < T.n ∧ k ≠ g) (fun k => k ∈ Kp) (fun k => k ∈ free) (fun k => k ∈ cut)
def MoAt (a : At) (H : Hp) (m : Addr) (Kp cut free : List Nat) (b : Bool) : Prop := ∃ dx kp cp fp, H m = some (.ins a.Moment dx [("kept", .ref kp), ("cut", .ref cp), ("free", .ref fp), ("hand", .str (handS b))]) ∧ H kp = some (.lst (ixs Kp)) ∧ H cp = some (.lst (ixs cut)) ∧ H fp = some (.lst (ixs free))
theorem MoAt.same {a : At} {H H' : Hp} {m : Addr} {Kp cut free : List Nat} {b : Bool} (h : MoAt a H m Kp cut free b) (s : Same H H') : MoAt a H' m Kp cut free b := by
  obtain ⟨dx, kp, cp, fp, h1, h2, h3, h4⟩ := h
  exact ⟨dx, kp, cp, fp, s _ _ h1, s _ _ h2, s _ _ h3, s _ _ h4⟩
/-- the moment's lists lie elsewhere -/
def MoAp (a : At) (H : Hp) (m x : Addr) : Prop := ∀ dx kp cp fp hd, H m = some (.ins a.Moment dx [("kept", .ref kp), ("cut", .ref cp), ("free", .ref fp), ("hand", hd)]) → kp ≠ x ∧ cp ≠ x ∧ fp ≠ x
theorem MoAp.of {a : At} {H : Hp} {m x dx kp cp fp : Addr} {hd : V} (e : H m = some (.ins a.Moment dx [("kept", .ref kp), ("cut", .ref cp), ("free", .ref fp), ("hand", hd)])) (n : kp ≠ x ∧ cp ≠ x ∧ fp ≠ x) : MoAp a H m x := fun dx' kp' cp' fp' hd' e' => by
  rw [e] at e'
  injection e' with e'
  injection e' with _ _ e'
  injection e' with e1 e'
  injection e' with e2 e'
  injection e' with e3 e'
  injection e1 with _ e1
  injection e2 with _ e2
  injection e3 with _ e3
  cases e1
  cases e2
  cases e3
  exact n
theorem MoAp.like {a : At} {H H' : Hp} {m x : Addr} (h : MoAp a H m x) (e : H' m = H m) : MoAp a H' m x := fun dx kp cp fp hd q => h dx kp cp fp hd (e ▸ q)
abbrev gmF (t ml : Addr) (g i : Nat) : List (Str × V) := [("own_table", .ref t), ("own_goal", .int (g : Int)), ("moments", .ref ml), ("at", .int (i : Int))]
structure GameAt (K : PySem.W.Frag) (a : At) (H : Hp) (gm t : Addr) (T : Tab) (g : Nat) (m : Addr) (Kp cut free : List Nat) (b : Bool) : Prop where
  tab : TabAt K a.Rows H t T
  ob : ∃ dx ml i, ∃ ms : List Addr, H gm = some (.ins a.Game dx (gmF t ml g i)) ∧ H ml = some (.lst (ms.map V.ref)) ∧ ms[i]? = some m ∧ i + 1 = ms.length ∧ ms.length + free.length ≤ 6
  mo : MoAt a H m Kp cut free b
theorem GameAt.same {K : PySem.W.Frag} {a : At} {H H' : Hp} {gm t m : Addr} {T : Tab} {g : Nat} {Kp cut free : List Nat} {b : Bool} (h : GameAt K a H gm t T g m Kp cut free b) (s : Same H H') : GameAt K a H' gm t T g m Kp cut free b := by
  obtain ⟨h1, ⟨dx, ml, i, ms, h2, h3, h4⟩, h5⟩ := h
  exact ⟨h1.same s, ⟨dx, ml, i, ms, s _ _ h2, s _ _ h3, h4⟩, h5.same s⟩
section
variable (P : Program) (w : World) {K : PySem.W.Frag} {mg : Str → Option Value} (base : Heap) {a : At}
def sp_Moment (a : At) : Sp := fun vs H Q _ => ∃ m dx kp cp fp b Kp cut free, vs = [.ref m, .ref kp, .ref cp, .ref fp, .str (handS b)] ∧ H m = some (.ins a.Moment dx []) ∧ H kp = some (.lst (ixs Kp)) ∧ H cp = some (.lst (ixs cut)) ∧ H fp = some (.lst (ixs free)) ∧
  ∀ H', (∀ x o, H x = some o → x ≠ m → H' x = some o) → MoAt a H' m Kp cut free b → (∀ x, kp ≠ x ∧ cp ≠ x ∧ fp ≠ x → MoAp a H' m x) → Q .non H'
theorem ok_Moment_init (T : Tx K mg a) : Fn P w K mg base 1 a.Moment_init (sp_Moment a) := by
  refine fn_d T.F_Moment_init sc_Moment_init (fun _ _ _ _ _ _ us hl => match us, hl with | [_, _, _, _, _], _ => rfl) (fun vs H Q E h => ?_) fun cdv A outer s H vs Q E hr h => ?_
  · obtain ⟨m, dx, kp, cp, fp, b, Kp, cut, free, rfl, _⟩ := h
    rfl
  · obtain ⟨m, dx, kp, cp, fp, b, Kp, cut, free, rfl, hm, hkp, hcp, hfp, q⟩ := h
    refine ⟨_, pss_cons (ps_fld (pv 0) (pv 1) rfl)
        (pss_cons (ps_fld (pv 0) (pv 2) rfl)
        (pss_cons (ps_fld (pv 0) (pv 3) rfl)
        (pss_one (ps_fld (pv 0) (pv 4) rfl)))), ?_⟩
    refine ⟨_, rfl, _, rfl, m, _, dx, _, rfl, hm, T.c_Moment, T.n_Moment_kept, (by show 0 < 1000; decide), ?_⟩
    refine ⟨_, rfl, _, rfl, m, _, dx, _, rfl, upd_same, T.c_Moment, T.n_Moment_cut, (by show 1 < 1000; decide), ?_⟩
    rw [upd_upd]
    refine ⟨_, rfl, _, rfl, m, _, dx, _, rfl, upd_same, T.c_Moment, T.n_Moment_free, (by show 2 < 1000; decide), ?_⟩
    rw [upd_upd]
    refine ⟨_, rfl, _, rfl, m, _, dx, _, rfl, upd_same, T.c_Moment, T.n_Moment_hand, (by show 3 < 1000; decide), ?_⟩
    rw [upd_upd]
    have n1 : ∀ {x xs}, H x = some (.lst xs) → x ≠ m := fun {x xs} h e => by rw [e, hm] at h; cases h
    exact q _ (fun x o e n => by rw [upd_ne n]; exact e) ⟨dx, kp, cp, fp, upd_same, by rw [upd_ne (n1 hkp)]; exact hkp, by rw [upd_ne (n1 hcp)]; exact hcp, by rw [upd_ne (n1 hfp)]; exact hfp⟩ fun x n => MoAp.of upd_same n
def sp_behind (a : At) : Sp := fun vs H Q _ => ∃ m b Kp cut free, ∃ (row : Nat), vs = [.ref m, .int (row : Int)] ∧ MoAt a H m Kp cut free b ∧ Kp.length ≤ 6 ∧ cut.length ≤ 6 ∧ free.length ≤ 6 ∧
  ∀ H' m' Kp' cut', Same H H' → H m' = none → MoAt a H' m' Kp' cut' (free.filter fun k => k != row) (!b) → (if b then Kp'.Perm (Kp ++ [row]) ∧ cut' = cut else Kp' = Kp ∧ cut'.Perm (cut ++ [row])) → (∀ x o, H x = some o → MoAp a H m x → MoAp a H' m' x) → Q (.ref m') H'
theorem ok_Moment_behind (T : Tx K mg a) : Fn P w K mg base 3 a.Moment_behind (sp_behind a) := by
  refine fn_d T.F_Moment_behind sc_Moment_behind (fun _ _ _ _ _ _ us hl => match us, hl with | [_, _], _ => rfl) (fun vs H Q E h => ?_) fun cdv A outer s H vs Q E hr h => ?_
  · obtain ⟨m, b, Kp, cut, free, row, rfl, _⟩ := h
    rfl
  · obtain ⟨m, b, Kp, cut, free, row, rfl, hM, lk, lc, lfr, q⟩ := h
    refine ⟨_, pss_cons (ps_setLc (i := 2) (own := [("other", 3)]) rfl sc_Moment_behind.nd rfl rfl (sw_true rfl rfl rfl (by decide +kernel)) (pi_list (pe_fld (pv 0) rfl)) (blkOk_by (N := ["self", "row", "free", "other"]) (sc := defScope s_Moment_behind) (by decide +kernel)) (fun _ _ _ _ _ => (pg_name (i := 3) sc_Moment_behind.nd rfl (by first | exact Or.inl rfl | exact Or.inr rfl))) (fun _ _ _ _ _ => (pts_one (pt_cmpR op_ne (pv 3) (pv 1) (nomark _)))) (fun _ _ _ _ _ => (pv 3)))
        (pss_cons (ps_if (pt_cmpR op_eq (pe_fld (pv 0) rfl) (pe_glob (v := .str ("keep" : Str)) rfl T.g_KEEP.choose_spec ⟨_, rfl⟩) (nomark _)) (pss_one (ps_ret (pe_make T.k_Moment (ok_Moment_init P w base T).ok (hr.mono (by decide)) (by rfl) T.gC_Moment (ok_Moment_init P w base T).b .nil pass0 (pa_cons (pe_callB cr_sorted (by rfl) T.b_sorted (by decide +kernel) (pa_cons (pe_lst (StX.pa_star (pe_fld (pv 0) rfl) (pa_cons (pv 1) pa_nil))) pa_nil)) (pa_cons (pe_fld (pv 0) rfl) (pa_cons (pv 2) (pa_cons (pe_glob (v := .str ("cut" : Str)) rfl T.g_CUT.choose_spec ⟨_, rfl⟩) pa_nil))))))) pss_nil)
        (pss_one (ps_ret (pe_make T.k_Moment (ok_Moment_init P w base T).ok (hr.mono (by decide)) (by rfl) T.gC_Moment (ok_Moment_init P w base T).b .nil pass0 (pa_cons (pe_fld (pv 0) rfl) (pa_cons (pe_callB cr_sorted (by rfl) T.b_sorted (by decide +kernel) (pa_cons (pe_lst (StX.pa_star (pe_fld (pv 0) rfl) (pa_cons (pv 1) pa_nil))) pa_nil)) (pa_cons (pv 2) (pa_cons (pe_glob (v := .str ("keep" : Str)) rfl T.g_KEEP.choose_spec ⟨_, rfl⟩) pa_nil)))))))), ?_⟩
    obtain ⟨dx, kp, cp, fp, hm, hkp, hcp, hfp⟩ := id hM
    have lF : (ixs free).length = free.length := List.length_map _
    refine ⟨_, rfl, m, _, dx, _, _, rfl, hm, T.c_Moment, T.n_Moment_free, rfl, fp, rfl, ⟨_, SqL.of hfp⟩, fun D hD => ?_⟩
    refine lc_w (walk_list (xs := ixs free)) (fun j => free[j]?.bind fun k => if k != row then some (.int (k : Int)) else none) hD (by rw [lF]; omega) (fun H5 s5 => SqL.of (s5 _ _ hfp)) (fun j z H5 H6 hj s5 hy take skip => ?_) fun H1 s1 hD1 => ?_
    · obtain ⟨rfl, hz⟩ := hy
      obtain ⟨k, hk, rfl⟩ := ix_at hz
      refine ⟨rfl, _, rfl, _, rfl, rfl, _, rfl, ?_⟩
      by_cases e : k = row
      · exact itF (by rw [dec_int, e]; simp) (skip _ (by rw [hk]; simp [e]) (Same.refl _))
      · exact itT (by rw [dec_int]; simp; omega) ⟨_, rfl, take _ _ (by rw [hk]; simp [e]) (Same.refl _)⟩
    rw [lF, range_fm free fun k => if k != row then some (V.int (k : Int)) else none, fm_filter] at hD1
    refine ⟨_, rfl, m, _, dx, _, _, rfl, s1 _ _ hm, T.c_Moment, T.n_Moment_hand, rfl, rfl, _, rfl, ?_⟩
    cases b with
    | true =>
      refine itT (by decide) ?_
      refine ⟨_, rfl, m, _, dx, _, _, rfl, s1 _ _ hm, T.c_Moment, T.n_Moment_kept, rfl, kp, _, rfl, .inr (SqL.of (s1 _ _ hkp)), _, rfl, ?_⟩
      have ea : ixs Kp ++ [V.int (row : Int)] = (castL (Kp ++ [row])).map V.int := by rw [ixs_cast]; unfold ixs; rw [List.map_append]; rfl
      refine ⟨by rw [ea, List.length_map, List.length_map, List.length_append]; exact Nat.le_trans (show _ ≤ 7 from Nat.succ_le_succ lk) (by decide), fun l1 hl1 => ?_⟩
      rw [ea]
      have s2 := same_upd (o := .lst ((castL (Kp ++ [row])).map V.int)) hl1
      refine ⟨l1, castL (Kp ++ [row]), rfl, SqL.of upd_same, by rw [List.length_map, List.length_append]; exact Nat.lt_of_le_of_lt (show _ ≤ 7 from Nat.succ_le_succ lk) (by decide), fun ys p pm _ hp => ?_⟩
      obtain ⟨Kp', rfl, pm'⟩ := cast_perm pm
      have s3 := same_upd (o := .lst ((castL Kp').map V.int)) hp
      have s13 := s1.trans (s2.trans s3)
      refine ⟨_, rfl, m, _, dx, _, _, rfl, s13 _ _ hm, T.c_Moment, T.n_Moment_cut, rfl, _, rfl, ?_⟩
      intro m' dm hn hdn hne
      have s4 := (same_upd (o := .own m') hdn).trans (same_upd (o := .ins a.Moment dm []) (by rw [upd_ne hne.symm]; exact hn))
      refine ⟨m', dm, p, cp, D, false, Kp', cut, free.filter (fun k => k != row), rfl, upd_same, by rw [← ixs_cast]; exact s4 _ _ upd_same, s13.trans s4 _ _ hcp, s2.trans (s3.trans s4) _ _ hD1, fun H5 old hM5 ap5 => ⟨rfl, ?_⟩⟩
      exact q _ m' Kp' cut (fun x o e => old _ _ (s13.trans s4 _ _ e) (ne_of_none e (s13.free hn))) (s13.free hn) hM5 ⟨pm', rfl⟩ fun x o hx ap => ap5 x ⟨(ne_of_none hx (s1.trans s2 |>.free hp)).symm, (ap dx kp cp fp _ hm).2.1, (ne_of_none hx hD).symm⟩
    | false =>
      refine itF (by decide) ?_
      refine ⟨_, rfl, m, _, dx, _, _, rfl, s1 _ _ hm, T.c_Moment, T.n_Moment_kept, rfl, _, rfl, m, _, dx, _, _, rfl, s1 _ _ hm, T.c_Moment, T.n_Moment_cut, rfl, cp, _, rfl, .inr (SqL.of (s1 _ _ hcp)), _, rfl, ?_⟩
      have ea : ixs cut ++ [V.int (row : Int)] = (castL (cut ++ [row])).map V.int := by rw [ixs_cast]; unfold ixs; rw [List.map_append]; rfl
      refine ⟨by rw [ea, List.length_map, List.length_map, List.length_append]; exact Nat.le_trans (show _ ≤ 7 from Nat.succ_le_succ lc) (by decide), fun l1 hl1 => ?_⟩
      rw [ea]
      have s2 := same_upd (o := .lst ((castL (cut ++ [row])).map V.int)) hl1
      refine ⟨l1, castL (cut ++ [row]), rfl, SqL.of upd_same, by rw [List.length_map, List.length_append]; exact Nat.lt_of_le_of_lt (show _ ≤ 7 from Nat.succ_le_succ lc) (by decide), fun ys p pm _ hp => ?_⟩
      obtain ⟨cut', rfl, pm'⟩ := cast_perm pm
      have s3 := same_upd (o := .lst ((castL cut').map V.int)) hp
      have s13 := s1.trans (s2.trans s3)
      refine ⟨_, rfl, ?_⟩
      intro m' dm hn hdn hne
      have s4 := (same_upd (o := .own m') hdn).trans (same_upd (o := .ins a.Moment dm []) (by rw [upd_ne hne.symm]; exact hn))
      refine ⟨m', dm, kp, p, D, true, Kp, cut', free.filter (fun k => k != row), rfl, upd_same, s13.trans s4 _ _ hkp, by rw [← ixs_cast]; exact s4 _ _ upd_same, s2.trans (s3.trans s4) _ _ hD1, fun H5 old hM5 ap5 => ⟨rfl, ?_⟩⟩
      exact q _ m' Kp cut' (fun x o e => old _ _ (s13.trans s4 _ _ e) (ne_of_none e (s13.free hn))) (s13.free hn) hM5 ⟨rfl, pm'⟩ fun x o hx ap => ap5 x ⟨(ap dx kp cp fp _ hm).1, (ne_of_none hx (s1.trans s2 |>.free hp)).symm, (ne_of_none hx hD).symm⟩
def sp_Game (K : PySem.W.Frag) (a : At) : Sp := fun vs H Q _ => ∃ gm dx t T b, ∃ (g : Nat), vs = [.ref gm, .ref t, .int (g : Int), .str (handS b)] ∧ H gm = some (.ins a.Game dx []) ∧ TabAt K a.Rows H t T ∧ TabOk T ∧ g < T.n ∧
  ∀ H' m, (∀ x o, H x = some o → x ≠ gm → H' x = some o) → GameAt K a H' gm t T g m [] [] ((List.range T.n).filter fun k => k != g) b → (∀ x o, H x = some o → MoAp a H' m x) → Q .non H'
theorem ok_Game_init (T : Tx K mg a) : Fn P w K mg base 4 a.Game_init (sp_Game K a) := by
  refine fn_d T.F_Game_init sc_Game_init (fun _ _ _ _ _ _ us hl => match us, hl with | [_, _, _, _], _ => rfl) (fun vs H Q E h => ?_) fun cdv A outer s H vs Q E hr h => ?_
  · obtain ⟨gm, dx, t, T, b, g, rfl, _⟩ := h
    rfl
  · obtain ⟨gm, dx, t, Tb, b, g, rfl, hg, hT, O, gn, q⟩ := h
    refine ⟨_, pss_cons (ps_if (pt_not (pt_val (pe_call (ok_is_below P w base T).ok (hr.mono (by decide)) (by rfl) T.g_is_below (ok_is_below P w base T).kp (ok_is_below P w base T).b .nil pass0 (pa_cons (pv 2) (pa_cons (pe_callB (call_lenOwn T.M_Rows_len (ok_Rows_len P w base T) (hr.mono (by decide))) (by rfl) T.b_len PySem.boot_len (pa_cons (pv 1) pa_nil)) pa_nil))))) (pss_one ps_never) pss_nil)
        (pss_cons (ps_if (PW.pt (pw_or (pt_not (pt_val (pe_callB call_isi (by rfl) T.b_isinstance (by decide +kernel) (pa_cons (pv 3) (pa_cons (pe_bltn (v := .ty "str") (by rfl) T.b_str (by decide +kernel) rfl) pa_nil))))) (pw_or1 (pt_cmpR op_notIn_seq (pv 3) (pe_tup (pa_cons (pe_glob (v := .str ("keep" : Str)) rfl T.g_KEEP.choose_spec ⟨_, rfl⟩) (pa_cons (pe_glob (v := .str ("cut" : Str)) rfl T.g_CUT.choose_spec ⟨_, rfl⟩) pa_nil))) (by with_unfolding_all rfl))))) (pss_one ps_never) pss_nil)
        (pss_cons (ps_fld (pv 0) (pv 1) rfl)
        (pss_cons (ps_fld (pv 0) (pv 2) rfl)
        (pss_cons (ps_fld (pv 0) (pe_lst (pa_cons (pe_make T.k_Moment (ok_Moment_init P w base T).ok (hr.mono (by decide)) (by rfl) T.gC_Moment (ok_Moment_init P w base T).b .nil pass0 (pa_cons (pe_lst pa_nil) (pa_cons (pe_lst pa_nil) (pa_cons (pe_lc (own := [("row", 4)]) rfl sc_Game_init.nd (pi_range1 (by rfl) T.b_range (pa_cons (pe_callB (call_lenOwn T.M_Rows_len (ok_Rows_len P w base T) (hr.mono (by decide))) (by rfl) T.b_len PySem.boot_len (pa_cons (pv 1) pa_nil)) pa_nil)) (blkOk_by (N := ["self", "table", "goal", "first", "row"]) (sc := defScope s_Game_init) (by decide +kernel)) (fun _ _ _ _ _ => (pg_name (i := 4) sc_Game_init.nd rfl (by first | exact Or.inl rfl | exact Or.inr rfl))) (fun _ _ _ _ _ => (pts_one (pt_cmpR op_ne (pv 4) (pv 2) (nomark _)))) (fun _ _ _ _ _ => (pv 4))) (pa_cons (pv 3) pa_nil))))) pa_nil)) rfl)
        (pss_one (ps_fld (pv 0) pe_int rfl)))))), ?_⟩
    obtain ⟨dt, ro, ras, ht, _⟩ := id hT.ob
    have n6 : Tb.n ≤ 6 := O.n6
    have n6' : Tb.rows.length ≤ 6 := n6
    have ntg : t ≠ gm := fun e => by
      rw [e, hg] at ht
      injection ht with ht
      injection ht with _ _ ht
      cases ht
    have z1 : (0 : Int) ≤ ((Tb.rows.length : Nat) : Int) := by omega
    have z2 : ((Tb.rows.length : Nat) : Int) < 2 ^ 63 := by have : Tb.rows.length ≤ 6 := n6; omega
    refine ⟨_, rfl, _, rfl, t, dt, _, rfl, ht, t, Tb, rfl, hT, _, rfl, z1, z2, (g : Int), ((Tb.rows.length : Nat) : Int), rfl, _, rfl, ?_⟩
    have hgl : decide ((0 : Int) ≤ (g : Int) ∧ (g : Int) < ((Tb.rows.length : Nat) : Int)) = true := decide_eq_true (by have : g < Tb.rows.length := gn; omega)
    refine itF (by rw [hgl]; rfl) ?_
    refine ⟨_, rfl, .str _, .ty "str", _, _, true, rfl, .ty _, .base (.str _), kit_ty (by decide +kernel), true, rfl, ?_⟩
    refine itF rfl ?_
    refine ⟨_, rfl, (by show 2 ≤ sizeLine; decide), fun tp htp => ⟨tp, _, rfl, .inr (SqT.of upd_same), rfl, rfl, _, rfl, ?_⟩⟩
    refine itF (by cases b <;> decide) ?_
    have s1 := same_upd (o := .tup [.str ("keep" : Str), .str ("cut" : Str)]) htp
    have g1 := s1 _ _ hg
    have nt1 := s1 _ _ ht
    -- the fields
    refine ⟨_, rfl, _, rfl, gm, _, dx, _, rfl, g1, T.c_Game, T.n_Game_own_table, (by show 0 < 1000; decide), ?_⟩
    refine ⟨_, rfl, _, rfl, gm, _, dx, _, rfl, upd_same, T.c_Game, T.n_Game_own_goal, (by show 1 < 1000; decide), ?_⟩
    rw [upd_upd]
    have o2 : ∀ x o, H x = some o → x ≠ gm → upd (upd H tp (.tup [.str ("keep" : Str), .str ("cut" : Str)])) gm (.ins a.Game dx (putF "own_goal" (.int (g : Int)) (putF "own_table" (.ref t) []))) x = some o := fun x o e n => by rw [upd_ne n]; exact s1 _ _ e
    have g2 : upd (upd H tp (.tup [.str ("keep" : Str), .str ("cut" : Str)])) gm (.ins a.Game dx (putF "own_goal" (.int (g : Int)) (putF "own_table" (.ref t) []))) gm = some (.ins a.Game dx (putF "own_goal" (.int (g : Int)) (putF "own_table" (.ref t) []))) := upd_same
    have og : Odd H gm := ⟨_, _, _, hg, rfl, rfl⟩
    have hT2 := hT.odd og o2
    generalize upd (upd H tp (.tup [.str ("keep" : Str), .str ("cut" : Str)])) gm (.ins a.Game dx (putF "own_goal" (.int (g : Int)) (putF "own_table" (.ref t) []))) = H2 at *
    refine ⟨Nat.zero_le _, fun kp hkp => ⟨Nat.zero_le _, fun cp hcp => ?_⟩⟩
    have s3 := same_upd (o := .lst []) hkp
    have s4 := same_upd (o := .lst []) hcp
    have s34 := s3.trans s4
    have hT4 := hT2.same s34
    obtain ⟨dt4, ro4, ras4, ht4, _⟩ := id hT4.ob
    refine ⟨_, rfl, t, dt4, _, rfl, ht4, t, Tb, rfl, hT4, _, rfl, z1, z2, _, rfl, by omega, by omega, fun D hD => ?_⟩
    refine lc_w (walk_range (lo := 0) (n := Tb.n)) (fun j => some j |>.bind fun k => if k != g then some (.int (k : Int)) else none) hD (by omega) (fun _ _ => trivial) (fun j z H5 H6 hj s5 hy take skip => ?_) fun H5 s5 hD5 => ?_
    · obtain ⟨rfl, hz⟩ := hy
      obtain rfl : z = .int (j : Int) := by rw [hz]; show V.int (0 + (j : Int)) = _; rw [Int.zero_add]
      refine ⟨rfl, _, rfl, _, rfl, rfl, _, rfl, ?_⟩
      by_cases e : j = g
      · exact itF (by rw [dec_int, e]; simp) (skip _ (by simp [e]) (Same.refl _))
      · exact itT (by rw [dec_int]; simp; omega) ⟨_, rfl, take _ _ (by simp [e]) (Same.refl _)⟩
    have eD : (List.range Tb.n).filterMap (fun j => some j |>.bind fun k => if k != g then some (V.int (k : Int)) else none) = ixs ((List.range Tb.n).filter fun k => k != g) := fm_filter (fun k => k != g) (fun k => V.int (k : Int)) (List.range Tb.n)
    rw [eD] at hD5
    refine ⟨_, rfl, ?_⟩
    intro m dm hn hdn hne
    have s6 := (same_upd (o := .own m) hdn).trans (same_upd (o := .ins a.Moment dm []) (by rw [upd_ne hne.symm]; exact hn))
    refine ⟨m, dm, kp, cp, D, b, [], [], (List.range Tb.n).filter (fun k => k != g), rfl, upd_same, s4.trans (s5.trans s6) _ _ upd_same, s5.trans s6 _ _ upd_same, s6 _ _ hD5, fun H7 old hM7 ap7 => ⟨rfl, ?_⟩⟩
    have s24 := s34.trans (s5.trans s6)
    have mn2 : H2 m = none := (s34.trans s5).free hn
    have s27 : Same H2 H7 := fun x o e => old _ _ (s24 _ _ e) (ne_of_none e mn2)
    refine ⟨(by show 1 ≤ sizeLine; decide), fun ml hml => ?_⟩
    have s8 := same_upd (o := .lst [.ref m]) hml
    have s28 := s27.trans s8
    refine ⟨_, rfl, gm, _, dx, _, rfl, s28 _ _ g2, T.c_Game, T.n_Game_moments, (by show 2 < 1000; decide), ?_⟩
    refine ⟨_, rfl, gm, _, dx, _, rfl, upd_same, T.c_Game, T.n_Game_at, (by show 3 < 1000; decide), ?_⟩
    rw [upd_upd]
    have g8 := s28 _ _ g2
    have nmg : m ≠ gm := fun e => by rw [e, g2] at mn2; cases mn2
    have nlg : ml ≠ gm := fun e => by rw [e, s27 _ _ g2] at hml; cases hml
    have hM8 := hM7.same s8
    have new2 : ∀ x o, H x = some o → ∃ o2, H2 x = some o2 := fun x o e => by
      by_cases q : x = gm
      · rw [q]; exact ⟨_, g2⟩
      · exact ⟨o, o2 x o e q⟩
    have apx : ∀ x o, H x = some o → MoAp a H7 m x := fun x o e => by
      obtain ⟨o2', e2⟩ := new2 x o e
      exact ap7 x ⟨(ne_of_none e2 hkp).symm, (ne_of_none (s3 _ _ e2) hcp).symm, (ne_of_none (s34 _ _ e2) hD).symm⟩
    have m7 : ∃ dm', H7 m = some dm' := let ⟨_, _, _, _, e, _⟩ := hM7; ⟨_, e⟩
    have nmml : m ≠ ml := let ⟨_, e⟩ := m7; ne_of_none e hml
    have apx8 : ∀ x o, H x = some o → MoAp a (upd H7 ml (.lst [.ref m])) m x := fun x o e => (apx x o e).like (upd_ne nmml)
    have g8l : upd H7 ml (.lst [.ref m]) ml = some (.lst [.ref m]) := upd_same
    have hT8 := hT2.same s28
    have o8 : ∀ x o, H x = some o → x ≠ gm → upd H7 ml (.lst [.ref m]) x = some o := fun x o e n => s28 _ _ (o2 x o e n)
    have hfl : ((List.range Tb.n).filter fun k => k != g).length ≤ 5 := five_of (n := Tb.n) (g := g) (List.nodup_range.filter _) (fun k hk => by
      obtain ⟨h1, h2⟩ := List.mem_filter.mp hk
      exact ⟨List.mem_range.mp h1, by simpa using h2⟩) gn n6
    generalize upd H7 ml (.lst [.ref m]) = H8 at *
    refine q _ m (fun x o e n => by rw [upd_ne n]; exact o8 x o e n) ⟨hT8.odd ⟨_, _, _, g8, rfl, rfl⟩ fun x o e n => by rw [upd_ne n]; exact e, ⟨dx, ml, 0, [m], upd_same, by rw [upd_ne nlg]; exact g8l, rfl, rfl, by show 1 + _ ≤ 6; omega⟩, ?_⟩ (fun x o e => (apx8 x o e).like (upd_ne nmg))
    obtain ⟨dm', kp', cp', fp', m1, m2, m3, m4⟩ := hM8
    have nl : ∀ {x xs}, H8 x = some (.lst xs) → x ≠ gm := fun {x xs} h e => by rw [e, g8] at h; cases h
    exact ⟨dm', kp', cp', fp', by rw [upd_ne nmg]; exact m1, by rw [upd_ne (nl m2)]; exact m2, by rw [upd_ne (nl m3)]; exact m3, by rw [upd_ne (nl m4)]; exact m4⟩
def sp_now (K : PySem.W.Frag) (a : At) : Sp := fun vs H Q _ => ∃ gm t T g m Kp cut free b, vs = [.ref gm] ∧ GameAt K a H gm t T g m Kp cut free b ∧ Q (.ref m) H
theorem ok_Game_now (T : Tx K mg a) : Fn P w K mg base 1 a.Game_now (sp_now K a) := by
  refine fn_d T.F_Game_now sc_Game_now (fun _ _ _ _ _ _ us hl => match us, hl with | [_], _ => rfl) (fun vs H Q E h => ?_) fun cdv A outer s H vs Q E hr h => ?_
  · obtain ⟨gm, t, T, g, m, Kp, cut, free, b, rfl, _⟩ := h
    rfl
  · obtain ⟨gm, t, Tb, g, m, Kp, cut, free, b, rfl, hG, q⟩ := h
    refine ⟨_, pss_one (ps_ret (pe_ix ix_list (pe_fld (pv 0) rfl) (pe_fld (pv 0) rfl) (fun _ _ => rfl))), ?_⟩
    obtain ⟨_, ⟨dx, ml, i, ms, h1, h2, h3, _⟩, _⟩ := hG
    exact ⟨_, rfl, gm, _, dx, _, _, rfl, h1, T.c_Game, T.n_Game_moments, rfl, _, rfl, gm, _, dx, _, _, rfl, h1, T.c_Game, T.n_Game_at, rfl, ml, _, _, _, rfl, rfl, SqL.of h2, at_nat (at_map V.ref h3), q⟩
def sp_free_rows (K : PySem.W.Frag) (a : At) : Sp := fun vs H Q _ => ∃ gm t T g m Kp cut free b, vs = [.ref gm] ∧ GameAt K a H gm t T g m Kp cut free b ∧ ∀ H' l, Same H H' → H l = none → H' l = some (.lst (ixs free)) → Q (.ref l) H'
theorem ok_Game_free_rows (T : Tx K mg a) : Fn P w K mg base 2 a.Game_free_rows (sp_free_rows K a) := by
  refine fn_d T.F_Game_free_rows sc_Game_free_rows (fun _ _ _ _ _ _ us hl => match us, hl with | [_], _ => rfl) (fun vs H Q E h => ?_) fun cdv A outer s H vs Q E hr h => ?_
  · obtain ⟨gm, t, T, g, m, Kp, cut, free, b, rfl, _⟩ := h
    rfl
  · obtain ⟨gm, t, Tb, g, m, Kp, cut, free, b, rfl, hG, q⟩ := h
    refine ⟨_, pss_one (ps_ret (pe_callTy call_list_of (by rfl) T.b_list (by decide +kernel) (pa_cons (pe_fld (pe_meth0 (pv 0) T.c_Game T.M_Game_now (ok_Game_now P w base T).ok (hr.mono (by decide)) (ok_Game_now P w base T).b .nil pass0) rfl) pa_nil))), ?_⟩
    obtain ⟨_, ⟨dx, ml, i, ms, h1, h2, h3, _⟩, ⟨dm, kp, cp, fp, m1, m2, m3, m4⟩⟩ := id hG
    exact ⟨_, rfl, gm, dx, _, rfl, h1, rfl, gm, t, Tb, g, m, Kp, cut, free, b, rfl, hG, m, _, dm, _, _, rfl, m1, T.c_Moment, T.n_Moment_free, rfl, fp, _, rfl, .inl (SqL.of m4), fun l hl => q _ l (same_upd hl) hl upd_same⟩
/-- what is asked of a moment -/
def sp_asked (K : PySem.W.Frag) (a : At) (W : Tab → Nat → List Nat → List Nat → Bool → V → Prop) : Sp := fun vs H Q _ => ∃ gm t ml dx i m T Kp cut free b, ∃ (g : Nat), vs = [.ref gm, .ref m] ∧ H gm = some (.ins a.Game dx (gmF t ml g i)) ∧ TabAt K a.Rows H t T ∧ MoAt a H m Kp cut free b ∧ MoOk T g Kp cut free ∧
  ∀ H' v, Same H H' → W T g Kp free b v → Q v H'
def WKept (T : Tab) (g : Nat) (Kp free : List Nat) (b : Bool) (v : V) : Prop := ∃ c, v = .bl c ∧ (c = true ↔ cl T.p T.vec (fun k => k ∈ Kp) g)
def WLost (T : Tab) (g : Nat) (Kp free : List Nat) (b : Bool) (v : V) : Prop := ∃ c, v = .bl c ∧ (c = true ↔ ¬ cl T.p T.vec (fun k => k ∈ Kp ∨ k ∈ free) g)
theorem ok_Game_is_kept (T : Tx K mg a) : Fn P w K mg base 8 a.Game_is_kept (sp_asked K a WKept) := by
  refine fn_d T.F_Game_is_kept sc_Game_is_kept (fun _ _ _ _ _ _ us hl => match us, hl with | [_, _], _ => rfl) (fun vs H Q E h => ?_) fun cdv A outer s H vs Q E hr h => ?_
  · obtain ⟨gm, t, ml, dx, i, m, T, Kp, cut, free, b, g, rfl, _⟩ := h
    rfl
  · obtain ⟨gm, t, ml, dx, i, m, Tb, Kp, cut, free, b, g, rfl, hg, hT, hM, O, q⟩ := h
    refine ⟨_, pss_one (ps_ret (pe_call (ok_is_made P w base T).ok (hr.mono (by decide)) (by rfl) T.g_is_made (ok_is_made P w base T).kp (ok_is_made P w base T).b .nil pass0 (pa_cons (pe_fld (pv 0) rfl) (pa_cons (pe_fld (pv 1) rfl) (pa_cons (pe_fld (pv 0) rfl) pa_nil))))), ?_⟩
    obtain ⟨dm, kp, cp, fp, hm, hkp, hcp, hfp⟩ := id hM
    refine ⟨_, rfl, gm, _, dx, _, _, rfl, hg, T.c_Game, T.n_Game_own_table, rfl, _, rfl, m, _, dm, _, _, rfl, hm, T.c_Moment, T.n_Moment_kept, rfl, _, rfl, gm, _, dx, _, _, rfl, hg, T.c_Game, T.n_Game_own_goal, rfl, ?_⟩
    exact ⟨t, kp, Tb, Kp, g, rfl, hT, O.fo.cop.ok, SqL.of hkp, O.fo.cop.kn, O.fo.cop.kl, O.fo.cop.gn, fun H' c s1 hc => q _ _ s1 ⟨c, rfl, hc⟩⟩
theorem ok_Game_is_lost (T : Tx K mg a) : Fn P w K mg base 8 a.Game_is_lost (sp_asked K a WLost) := by
  refine fn_d T.F_Game_is_lost sc_Game_is_lost (fun _ _ _ _ _ _ us hl => match us, hl with | [_, _], _ => rfl) (fun vs H Q E h => ?_) fun cdv A outer s H vs Q E hr h => ?_
  · obtain ⟨gm, t, ml, dx, i, m, T, Kp, cut, free, b, g, rfl, _⟩ := h
    rfl
  · obtain ⟨gm, t, ml, dx, i, m, Tb, Kp, cut, free, b, g, rfl, hg, hT, hM, O, q⟩ := h
    refine ⟨_, pss_one (ps_ret (pe_not (pe_call (ok_is_made P w base T).ok (hr.mono (by decide)) (by rfl) T.g_is_made (ok_is_made P w base T).kp (ok_is_made P w base T).b .nil pass0 (pa_cons (pe_fld (pv 0) rfl) (pa_cons (pe_lst (StX.pa_star (pe_fld (pv 1) rfl) (StX.pa_star (pe_fld (pv 1) rfl) pa_nil))) (pa_cons (pe_fld (pv 0) rfl) pa_nil)))))), ?_⟩
    obtain ⟨dm, kp, cp, fp, hm, hkp, hcp, hfp⟩ := id hM
    have C := O.fo.cop
    have ea : ixs Kp ++ (ixs free ++ []) = ixs (Kp ++ free) := by rw [List.append_nil]; unfold ixs; rw [List.map_append]
    have ndl : (Kp ++ free).Nodup := List.nodup_append.mpr ⟨C.kn, O.fo.nf, fun x hx y hy e => (C.rl y hy).2.2 (e ▸ hx)⟩
    have ltl : ∀ k, k ∈ Kp ++ free → k < Tb.n ∧ k ≠ g := fun k hk => by
      rcases List.mem_append.mp hk with h | h
      · exact C.kl k h
      · exact ⟨(C.rl k h).1, (C.rl k h).2.1⟩
    have l5 := five_of ndl ltl C.gn C.ok.n6
    refine ⟨_, rfl, gm, _, dx, _, _, rfl, hg, T.c_Game, T.n_Game_own_table, rfl, _, rfl, m, _, dm, _, _, rfl, hm, T.c_Moment, T.n_Moment_kept, rfl, kp, _, rfl, .inr (SqL.of hkp), _, rfl, m, _, dm, _, _, rfl, hm, T.c_Moment, T.n_Moment_free, rfl, fp, _, rfl, .inr (SqL.of hfp), ?_⟩
    refine ⟨by rw [ea, List.length_map]; exact Nat.le_trans l5 (by decide), fun l1 hl1 => ?_⟩
    rw [ea]
    have s1 := same_upd (o := .lst (ixs (Kp ++ free))) hl1
    refine ⟨_, rfl, gm, _, dx, _, _, rfl, s1 _ _ hg, T.c_Game, T.n_Game_own_goal, rfl, ?_⟩
    refine ⟨t, l1, Tb, Kp ++ free, g, rfl, hT.same s1, C.ok, SqL.of upd_same, ndl, ltl, C.gn, fun H' c s2 hc => ?_⟩
    have hcl := cl_clo (fld_mem C.ok.fp) Tb.vec
    have hc' : c = true ↔ cl Tb.p Tb.vec (fun z => z ∈ Kp ∨ z ∈ free) g := hc.trans ⟨fun c => hcl.mono (fun x hx => List.mem_append.mp hx) c, fun c => hcl.mono (fun x hx => List.mem_append.mpr hx) c⟩
    refine ⟨_, rfl, q _ _ (s1.trans s2) ⟨!c, rfl, ?_⟩⟩
    cases c with
    | true => exact ⟨fun h => (by cases h), fun h => absurd (hc'.mp rfl) h⟩
    | false => exact ⟨fun _ h => (by have := hc'.mpr h; cases this), fun _ => rfl⟩
end
end FL
/-! Game: turn, winner_at when the cutting hand moves. -/
set_option Elab.async false
set_option linter.all false
set_option maxRecDepth 1000000
set_option maxHeartbeats 8000000
namespace FL
open PySem PySem.Spec PyProof.Rows L2
def Made (T : Tab) (g : Nat) (Kp : List Nat) : Prop := cl T.p T.vec (fun k => k ∈ Kp) g
def Lost (T : Tab) (g : Nat) (Kp free : List Nat) : Prop := ¬ cl T.p T.vec (fun k => k ∈ Kp ∨ k ∈ free) g
def Over (T : Tab) (g : Nat) (Kp free : List Nat) : Prop := Made T g Kp ∨ Lost T g Kp free
def WinB (T : Tab) (g : Nat) (Kp free : List Nat) (b : Bool) : Prop := Win (cl T.p T.vec) g free.length (fun k => k ∈ Kp) (fun k => k ∈ free) b
section
variable {T : Tab} {g : Nat} {Kp cut free Kp' cut' : List Nat} {row : Nat}
theorem MoOk.keep (O : MoOk T g Kp cut free) (hr : row ∈ free) (hp : Kp'.Perm (Kp ++ [row])) : MoOk T g Kp' cut (free.filter fun k => k != row) := by
  have C := O.fo.cop
  have hm : ∀ z, z ∈ Kp' ↔ z ∈ Kp ∨ z = row := fun z => by rw [hp.mem_iff, List.mem_append, List.mem_singleton]
  have hf : ∀ z, z ∈ free.filter (fun k => k != row) ↔ z ∈ free ∧ z ≠ row := fun z => by rw [List.mem_filter]; simp
  have hrl := C.rl row hr
  refine ⟨⟨⟨C.ok, hp.nodup_iff.mpr (List.nodup_append.mpr ⟨C.kn, by simp, fun x hx y hy e => by rw [List.mem_singleton] at hy; subst hy; subst e; exact hrl.2.2 hx⟩), fun k hk => ?_, fun r h => ?_, C.gn, Nat.le_trans (List.length_filter_le _ _) C.len⟩, O.fo.nf.filter _, Nat.le_trans (List.length_filter_le _ _) O.fo.f5⟩, O.cn, ?_⟩
  · rcases (hm k).mp hk with h | h
    · exact C.kl k h
    · exact h ▸ ⟨hrl.1, hrl.2.1⟩
  · obtain ⟨h1, h2⟩ := (hf r).mp h
    exact ⟨(C.rl r h1).1, (C.rl r h1).2.1, fun q => ((hm r).mp q).elim (C.rl r h1).2.2 h2⟩
  · have p := O.part.keep hr
    exact ⟨fun x => by rw [p.all x, hm, hf], fun x h q => p.kf x ((hm x).mp h) ((hf x).mp q), fun x h => p.kt x ((hm x).mp h), fun x h => p.ft x ((hf x).mp h)⟩
theorem MoOk.cutBy (O : MoOk T g Kp cut free) (hr : row ∈ free) (hp : cut'.Perm (cut ++ [row])) : MoOk T g Kp cut' (free.filter fun k => k != row) := by
  have C := O.fo.cop
  have hm : ∀ z, z ∈ cut' ↔ z ∈ cut ∨ z = row := fun z => by rw [hp.mem_iff, List.mem_append, List.mem_singleton]
  have hf : ∀ z, z ∈ free.filter (fun k => k != row) ↔ z ∈ free ∧ z ≠ row := fun z => by rw [List.mem_filter]; simp
  refine ⟨⟨⟨C.ok, C.kn, C.kl, fun r h => C.rl r ((hf r).mp h).1, C.gn, Nat.le_trans (List.length_filter_le _ _) C.len⟩, O.fo.nf.filter _, Nat.le_trans (List.length_filter_le _ _) O.fo.f5⟩, hp.nodup_iff.mpr (List.nodup_append.mpr ⟨O.cn, by simp, fun x hx y hy e => ?_⟩), ?_⟩
  · rw [List.mem_singleton] at hy
    subst hy
    subst e
    exact O.part.ft x hr hx
  · have p := O.part.cut hr
    exact ⟨fun x => by rw [p.all x, hm, hf], fun x h q => p.kf x h ((hf x).mp q), fun x h q => p.kt x h ((hm x).mp q), fun x h q => p.ft x ((hf x).mp h) ((hm x).mp q)⟩
theorem MoOk.lens (O : MoOk T g Kp cut free) : Kp.length ≤ 6 ∧ cut.length ≤ 6 ∧ free.length ≤ 6 := by
  have n6 : T.n ≤ 6 := O.fo.cop.ok.n6
  refine ⟨Nat.le_trans (few O.fo.cop.kn fun k hk => (O.fo.cop.kl k hk).1) n6, Nat.le_trans (few O.cn fun k hk => ((O.part.all k).mpr (.inr (.inr hk))).1) n6, O.fo.cop.len⟩
/-- behind a row, by the hand -/
def Nxt (Kp cut : List Nat) (row : Nat) (b : Bool) (Kp' cut' : List Nat) : Prop := if b then Kp'.Perm (Kp ++ [row]) ∧ cut' = cut else Kp' = Kp ∧ cut'.Perm (cut ++ [row])
theorem MoOk.nxt (O : MoOk T g Kp cut free) (hr : row ∈ free) {b : Bool} (h : Nxt Kp cut row b Kp' cut') : MoOk T g Kp' cut' (free.filter fun k => k != row) := by
  cases b with
  | true => obtain ⟨h1, rfl⟩ := h; exact O.keep hr h1
  | false => obtain ⟨rfl, h1⟩ := h; exact O.cutBy hr h1
theorem free_less (nf : free.Nodup) (hr : row ∈ free) : (free.filter fun k => k != row).length + 1 = free.length := by
  induction free with
  | nil => simp at hr
  | cons x l ih =>
    rw [List.nodup_cons] at nf
    by_cases e : x = row
    · subst e
      rw [List.filter_cons, if_neg (by simp), List.length_cons, List.filter_eq_self.mpr fun a ha => by simp; exact fun q => nf.1 (q ▸ ha)]
    · rw [List.filter_cons, if_pos (by simp [e]), List.length_cons, List.length_cons, ih nf.2 ((List.mem_cons.mp hr).resolve_left fun q => e q.symm)]
theorem WinB.keep (O : MoOk T g Kp cut free) (hr : row ∈ free) (hp : Kp'.Perm (Kp ++ [row])) : WinB T g Kp' (free.filter fun k => k != row) false ↔ Win (cl T.p T.vec) g (free.filter fun k => k != row).length (fun z => z ∈ Kp ∨ z = row) (fun z => z ∈ free ∧ z ≠ row) false := by
  have hcl := cl_clo (fld_mem O.fo.cop.ok.fp) T.vec
  have hm : ∀ z, z ∈ Kp' ↔ z ∈ Kp ∨ z = row := fun z => by rw [hp.mem_iff, List.mem_append, List.mem_singleton]
  have hf : ∀ z, z ∈ free.filter (fun k => k != row) ↔ z ∈ free ∧ z ≠ row := fun z => by rw [List.mem_filter]; simp
  exact ⟨fun h => win_congr hcl _ hm hf h, fun h => win_congr hcl _ (fun z => (hm z).symm) (fun z => (hf z).symm) h⟩
end
section
variable (P : Program) (w : World) {K : PySem.W.Frag} {mg : Str → Option Value} (base : Heap) {a : At}
def sp_turn (K : PySem.W.Frag) (a : At) : Sp := fun vs H Q _ => ∃ gm t T g m Kp cut free b, vs = [.ref gm] ∧ GameAt K a H gm t T g m Kp cut free b ∧ MoOk T g Kp cut free ∧
  (∀ H', Same H H' → Over T g Kp free → Q .non H') ∧ ∀ H', Same H H' → ¬ Over T g Kp free → Q (.str (handS b)) H'
theorem ok_Game_turn (T : Tx K mg a) : Fn P w K mg base 9 a.Game_turn (sp_turn K a) := by
  refine fn_d T.F_Game_turn sc_Game_turn (fun _ _ _ _ _ _ us hl => match us, hl with | [_], _ => rfl) (fun vs H Q E h => ?_) fun cdv A outer s H vs Q E hr h => ?_
  · obtain ⟨gm, t, T, g, m, Kp, cut, free, b, rfl, _⟩ := h
    rfl
  · obtain ⟨gm, t, Tb, g, m, Kp, cut, free, b, rfl, hG, O, q1, q2⟩ := h
    refine ⟨_, pss_cons (ps_set (i := 1) sc_Game_turn.nd rfl (by first | exact Or.inl rfl | exact Or.inr rfl) (pe_meth0 (pv 0) T.c_Game T.M_Game_now (ok_Game_now P w base T).ok (hr.mono (by decide)) (ok_Game_now P w base T).b .nil pass0))
        (pss_one (ps_ret (pe_ifExp (PW.pt (pw_or (pt_val (pe_meth (pv 0) T.c_Game T.M_Game_is_kept (ok_Game_is_kept P w base T).ok (hr.mono (by decide)) (ok_Game_is_kept P w base T).b .nil pass0 (pa_cons (pv 1) pa_nil))) (pw_or1 (pt_val (pe_meth (pv 0) T.c_Game T.M_Game_is_lost (ok_Game_is_lost P w base T).ok (hr.mono (by decide)) (ok_Game_is_lost P w base T).b .nil pass0 (pa_cons (pv 1) pa_nil)))))) pe_non (pe_fld (pv 1) rfl)))), ?_⟩
    obtain ⟨hT, ⟨dx, ml, i, ms, h1, h2, h3, _⟩, hM⟩ := id hG
    obtain ⟨dm, kp, cp, fp, m1, m2, m3, m4⟩ := id hM
    refine ⟨_, rfl, gm, dx, _, rfl, h1, rfl, gm, t, Tb, g, m, Kp, cut, free, b, rfl, hG, ?_⟩
    refine ⟨_, rfl, gm, dx, _, rfl, h1, rfl, _, rfl, gm, t, ml, dx, i, m, Tb, Kp, cut, free, b, g, rfl, h1, hT, hM, O, fun H1 v s1 hv => ?_⟩
    obtain ⟨c, rfl, hc⟩ := hv
    refine ⟨c, rfl, ?_⟩
    cases c with
    | true => exact itT rfl (itT rfl (q1 _ s1 (.inl (hc.mp rfl))))
    | false =>
      refine itF rfl ?_
      refine ⟨_, rfl, gm, dx, _, rfl, s1 _ _ h1, rfl, _, rfl, gm, t, ml, dx, i, m, Tb, Kp, cut, free, b, g, rfl, s1 _ _ h1, hT.same s1, hM.same s1, O, fun H2 v s2 hv => ?_⟩
      obtain ⟨c2, rfl, hc2⟩ := hv
      refine ⟨c2, rfl, ?_⟩
      cases c2 with
      | true => exact itT rfl (q1 _ (s1.trans s2) (.inr (hc2.mp rfl)))
      | false =>
        refine itF rfl ?_
        refine ⟨_, rfl, m, _, dm, _, _, rfl, s1.trans s2 _ _ m1, T.c_Moment, T.n_Moment_hand, rfl, q2 _ (s1.trans s2) ?_⟩
        rintro (h | h)
        · have := hc.mpr h; cases this
        · have := hc2.mpr h; cases this
def WWin (T : Tab) (g : Nat) (Kp free : List Nat) (b : Bool) (v : V) : Prop := ∃ c, v = .str (handS c) ∧ (c = true ↔ WinB T g Kp free b)
def sp_wcut (K : PySem.W.Frag) (a : At) : Sp := fun vs H Q _ => ∃ gm t ml dx i m T Kp cut free, ∃ (g : Nat), vs = [.ref gm, .ref m] ∧ H gm = some (.ins a.Game dx (gmF t ml g i)) ∧ TabAt K a.Rows H t T ∧ MoAt a H m Kp cut free false ∧ MoOk T g Kp cut free ∧
  ∀ H' v, Same H H' → WWin T g Kp free false v → Q v H'
theorem ok_winner_cut (T : Tx K mg a) : Fn P w K mg base 15 a.Game_winner_at (sp_wcut K a) := by
  refine fn_d T.F_Game_winner_at sc_Game_winner_at (fun _ _ _ _ _ _ us hl => match us, hl with | [_, _], _ => rfl) (fun vs H Q E h => ?_) fun cdv A outer s H vs Q E hr h => ?_
  · obtain ⟨gm, t, ml, dx, i, m, T, Kp, cut, free, g, rfl, _⟩ := h
    rfl
  · obtain ⟨gm, t, ml, dx, i, m, Tb, Kp, cut, free, g, rfl, h1, hT, hM, O, q⟩ := h
    refine ⟨_, pss_cons (ps_if (pt_val (pe_meth (pv 0) T.c_Game T.M_Game_is_kept (ok_Game_is_kept P w base T).ok (hr.mono (by decide)) (ok_Game_is_kept P w base T).b .nil pass0 (pa_cons (pv 1) pa_nil))) (pss_one (ps_ret (pe_glob (v := .str ("keep" : Str)) rfl T.g_KEEP.choose_spec ⟨_, rfl⟩))) pss_nil)
        (pss_cons (ps_if (pt_val (pe_meth (pv 0) T.c_Game T.M_Game_is_lost (ok_Game_is_lost P w base T).ok (hr.mono (by decide)) (ok_Game_is_lost P w base T).b .nil pass0 (pa_cons (pv 1) pa_nil))) (pss_one (ps_ret (pe_glob (v := .str ("cut" : Str)) rfl T.g_CUT.choose_spec ⟨_, rfl⟩))) pss_nil)
        (pss_cons (ps_if (pt_cmpR op_eq (pe_fld (pv 1) rfl) (pe_glob (v := .str ("cut" : Str)) rfl T.g_CUT.choose_spec ⟨_, rfl⟩) (nomark _)) (pss_one (ps_ret (pe_ifExp (pt_cmpR op_isN (pe_call (ok_hold_of P w base T).ok (hr.mono (by decide)) (by rfl) T.g_hold_of (ok_hold_of P w base T).kp (ok_hold_of P w base T).b .nil pass0 (pa_cons (pe_fld (pv 0) rfl) (pa_cons (pe_fld (pv 0) rfl) (pa_cons (pe_fld (pv 1) rfl) (pa_cons (pe_fld (pv 1) rfl) pa_nil))))) pe_non (nomark _)) (pe_glob (v := .str ("cut" : Str)) rfl T.g_CUT.choose_spec ⟨_, rfl⟩) (pe_glob (v := .str ("keep" : Str)) rfl T.g_KEEP.choose_spec ⟨_, rfl⟩)))) pss_nil)
        (pss_one ps_never))), ?_⟩
    obtain ⟨dm, kp, cp, fp, m1, m2, m3, m4⟩ := id hM
    have hcl := cl_clo (fld_mem O.fo.cop.ok.fp) Tb.vec
    refine ⟨_, rfl, gm, dx, _, rfl, h1, rfl, _, rfl, gm, t, ml, dx, i, m, Tb, Kp, cut, free, false, g, rfl, h1, hT, hM, O, fun H1 v s1 hv => ?_⟩
    obtain ⟨c, rfl, hc⟩ := hv
    refine ⟨c, rfl, ?_⟩
    cases c with
    | true => exact itT rfl (q _ (.str (handS true)) s1 ⟨true, rfl, fun _ => win_made _ (hc.mp rfl), fun _ => rfl⟩)
    | false =>
      refine itF rfl ?_
      refine ⟨_, rfl, gm, dx, _, rfl, s1 _ _ h1, rfl, _, rfl, gm, t, ml, dx, i, m, Tb, Kp, cut, free, false, g, rfl, s1 _ _ h1, hT.same s1, hM.same s1, O, fun H2 v s2 hv => ?_⟩
      obtain ⟨c2, rfl, hc2⟩ := hv
      have s12 := s1.trans s2
      refine ⟨c2, rfl, ?_⟩
      cases c2 with
      | true => exact itT rfl (q _ (.str (handS false)) s12 ⟨false, rfl, fun h => (by cases h), fun h => absurd h (win_lost hcl _ (hc2.mp rfl))⟩)
      | false =>
        refine itF rfl ?_
        refine ⟨_, rfl, m, _, dm, _, _, rfl, s12 _ _ m1, T.c_Moment, T.n_Moment_hand, rfl, rfl, _, rfl, itT (by decide) ?_⟩
        have nk : ¬ cl Tb.p Tb.vec (fun k => k ∈ Kp) g := fun h => by have := hc.mpr h; cases this
        have nl : cl Tb.p Tb.vec (fun k => k ∈ Kp ∨ k ∈ free) g := Classical.byContradiction fun h => by have := hc2.mpr h; cases this
        refine ⟨_, rfl, gm, _, dx, _, _, rfl, s12 _ _ h1, T.c_Game, T.n_Game_own_table, rfl, _, rfl, gm, _, dx, _, _, rfl, s12 _ _ h1, T.c_Game, T.n_Game_own_goal, rfl, _, rfl, m, _, dm, _, _, rfl, s12 _ _ m1, T.c_Moment, T.n_Moment_kept, rfl, _, rfl, m, _, dm, _, _, rfl, s12 _ _ m1, T.c_Moment, T.n_Moment_free, rfl, ?_⟩
        refine ⟨t, kp, fp, Tb, g, Kp, free, rfl, hT.same s12, SqL.of (s12 _ _ m2), SqL.of (s12 _ _ m4), O.fo, nk, nl, fun H3 s3 nw => ?_, fun H3 r s3 w3 => ?_⟩
        · exact ⟨rfl, _, rfl, itT rfl (q _ (.str (handS false)) (s12.trans s3) ⟨false, rfl, fun h => (by cases h), fun h => absurd h (nw _ (Nat.le_refl _))⟩)⟩
        · exact ⟨rfl, _, rfl, itF rfl (q _ (.str (handS true)) (s12.trans s3) ⟨true, rfl, fun _ => w3 _ (Nat.le_refl _), fun _ => rfl⟩)⟩
end
end FL
/-! Game: winner_at, winner, winning, take. -/
set_option Elab.async false
set_option linter.all false
set_option maxRecDepth 1000000
set_option maxHeartbeats 8000000
namespace FL
open PySem PySem.Spec PyProof.Rows L2
/-- who wins behind row k, the hand b to move -/
noncomputable def nxtB (T : Tab) (g : Nat) (Kp free : List Nat) (b : Bool) (k : Nat) : Bool :=
  @decide (Win (cl T.p T.vec) g (free.length - 1) (fun z => z ∈ Kp ∨ (b = true ∧ z = k)) (fun z => z ∈ free ∧ z ≠ k) (!b)) (Classical.propDecidable _)
theorem nxtB_iff {T : Tab} {g : Nat} {Kp free : List Nat} {b : Bool} {k : Nat} : nxtB T g Kp free b k = true ↔ Win (cl T.p T.vec) g (free.length - 1) (fun z => z ∈ Kp ∨ (b = true ∧ z = k)) (fun z => z ∈ free ∧ z ≠ k) (!b) := @decide_eq_true_iff _ (Classical.propDecidable _)
theorem nxtB_of {T : Tab} {g : Nat} {Kp cut free Kp' cut' : List Nat} {b : Bool} {k : Nat} (O : MoOk T g Kp cut free) (hk : k ∈ free) (h : Nxt Kp cut k b Kp' cut') : WinB T g Kp' (free.filter fun z => z != k) (!b) ↔ nxtB T g Kp free b k = true := by
  have hcl := cl_clo (fld_mem O.fo.cop.ok.fp) T.vec
  have hf : ∀ z, z ∈ free.filter (fun z => z != k) ↔ z ∈ free ∧ z ≠ k := fun z => by rw [List.mem_filter]; simp
  have hm : ∀ z, z ∈ Kp' ↔ z ∈ Kp ∨ (b = true ∧ z = k) := fun z => by
    cases b with
    | true => obtain ⟨h1, _⟩ := h; rw [h1.mem_iff, List.mem_append, List.mem_singleton]; simp
    | false => obtain ⟨rfl, _⟩ := h; simp
  have hl : (free.filter fun z => z != k).length = free.length - 1 := by have := free_less O.fo.nf hk; omega
  rw [nxtB_iff]
  unfold WinB
  rw [hl]
  exact ⟨fun w => win_congr hcl _ hm hf w, fun w => win_congr hcl _ (fun z => (hm z).symm) (fun z => (hf z).symm) w⟩
section
variable (P : Program) (w : World) {K : PySem.W.Frag} {mg : Str → Option Value} (base : Heap) {a : At}
theorem ok_Game_winner_at (T : Tx K mg a) : Fn P w K mg base 16 a.Game_winner_at (sp_asked K a WWin) := by
  refine fn_d T.F_Game_winner_at sc_Game_winner_at (fun _ _ _ _ _ _ us hl => match us, hl with | [_, _], _ => rfl) (fun vs H Q E h => ?_) fun cdv A outer s H vs Q E hr h => ?_
  · obtain ⟨gm, t, ml, dx, i, m, T, Kp, cut, free, b, g, rfl, _⟩ := h
    rfl
  · obtain ⟨gm, t, ml, dx, i, m, Tb, Kp, cut, free, b, g, rfl, h1, hT, hM, O, q⟩ := h
    refine ⟨_, pss_cons (ps_if (pt_val (pe_meth (pv 0) T.c_Game T.M_Game_is_kept (ok_Game_is_kept P w base T).ok (hr.mono (by decide)) (ok_Game_is_kept P w base T).b .nil pass0 (pa_cons (pv 1) pa_nil))) (pss_one (ps_ret (pe_glob (v := .str ("keep" : Str)) rfl T.g_KEEP.choose_spec ⟨_, rfl⟩))) pss_nil)
        (pss_cons (ps_if (pt_val (pe_meth (pv 0) T.c_Game T.M_Game_is_lost (ok_Game_is_lost P w base T).ok (hr.mono (by decide)) (ok_Game_is_lost P w base T).b .nil pass0 (pa_cons (pv 1) pa_nil))) (pss_one (ps_ret (pe_glob (v := .str ("cut" : Str)) rfl T.g_CUT.choose_spec ⟨_, rfl⟩))) pss_nil)
        (pss_cons (ps_if (pt_cmpR op_eq (pe_fld (pv 1) rfl) (pe_glob (v := .str ("cut" : Str)) rfl T.g_CUT.choose_spec ⟨_, rfl⟩) (nomark _)) (pss_one (ps_ret (pe_ifExp (pt_cmpR op_isN (pe_call (ok_hold_of P w base T).ok (hr.mono (by decide)) (by rfl) T.g_hold_of (ok_hold_of P w base T).kp (ok_hold_of P w base T).b .nil pass0 (pa_cons (pe_fld (pv 0) rfl) (pa_cons (pe_fld (pv 0) rfl) (pa_cons (pe_fld (pv 1) rfl) (pa_cons (pe_fld (pv 1) rfl) pa_nil))))) pe_non (nomark _)) (pe_glob (v := .str ("cut" : Str)) rfl T.g_CUT.choose_spec ⟨_, rfl⟩) (pe_glob (v := .str ("keep" : Str)) rfl T.g_KEEP.choose_spec ⟨_, rfl⟩)))) pss_nil)
        (pss_one (ps_ret (pe_ifExp (pt_val (pe_callB (cr_any rfl) (by rfl) T.b_any (by decide +kernel) (pa_cons (pe_lc (own := [("row", 2)]) rfl sc_Game_winner_at.nd (pi_list (pe_fld (pv 1) rfl)) (blkOk_by (N := ["self", "moment", "row"]) (sc := defScope s_Game_winner_at) (by decide +kernel)) (fun _ _ _ _ _ => (pg_name (i := 2) sc_Game_winner_at.nd rfl (by first | exact Or.inl rfl | exact Or.inr rfl))) (fun _ _ _ _ _ => pts_nil) (fun _ _ _ _ _ => (pe_cmpR op_eq (pe_meth (pv 0) T.c_Game T.M_Game_winner_at (ok_winner_cut P w base T).ok (hr.mono (by decide)) (ok_winner_cut P w base T).b .nil pass0 (pa_cons (pe_meth (pv 1) T.c_Moment T.M_Moment_behind (ok_Moment_behind P w base T).ok (hr.mono (by decide)) (ok_Moment_behind P w base T).b .nil pass0 (pa_cons (pv 2) pa_nil)) pa_nil)) (pe_glob (v := .str ("keep" : Str)) rfl T.g_KEEP.choose_spec ⟨_, rfl⟩) (nomark _)))) pa_nil))) (pe_glob (v := .str ("keep" : Str)) rfl T.g_KEEP.choose_spec ⟨_, rfl⟩) (pe_glob (v := .str ("cut" : Str)) rfl T.g_CUT.choose_spec ⟨_, rfl⟩)))))), ?_⟩
    obtain ⟨dm, kp, cp, fp, m1, m2, m3, m4⟩ := id hM
    have hcl := cl_clo (fld_mem O.fo.cop.ok.fp) Tb.vec
    refine ⟨_, rfl, gm, dx, _, rfl, h1, rfl, _, rfl, gm, t, ml, dx, i, m, Tb, Kp, cut, free, b, g, rfl, h1, hT, hM, O, fun H1 v s1 hv => ?_⟩
    obtain ⟨c, rfl, hc⟩ := hv
    refine ⟨c, rfl, ?_⟩
    cases c with
    | true => exact itT rfl (q _ (.str (handS true)) s1 ⟨true, rfl, fun _ => win_made _ (hc.mp rfl), fun _ => rfl⟩)
    | false =>
      refine itF rfl ?_
      refine ⟨_, rfl, gm, dx, _, rfl, s1 _ _ h1, rfl, _, rfl, gm, t, ml, dx, i, m, Tb, Kp, cut, free, b, g, rfl, s1 _ _ h1, hT.same s1, hM.same s1, O, fun H2 v s2 hv => ?_⟩
      obtain ⟨c2, rfl, hc2⟩ := hv
      have s12 := s1.trans s2
      refine ⟨c2, rfl, ?_⟩
      cases c2 with
      | true => exact itT rfl (q _ (.str (handS false)) s12 ⟨false, rfl, fun h => (by cases h), fun h => absurd h (win_lost hcl _ (hc2.mp rfl))⟩)
      | false =>
        refine itF rfl ?_
        have nk : ¬ cl Tb.p Tb.vec (fun k => k ∈ Kp) g := fun h => by have := hc.mpr h; cases this
        have nl : cl Tb.p Tb.vec (fun k => k ∈ Kp ∨ k ∈ free) g := Classical.byContradiction fun h => by have := hc2.mpr h; cases this
        refine ⟨_, rfl, m, _, dm, _, _, rfl, s12 _ _ m1, T.c_Moment, T.n_Moment_hand, rfl, rfl, _, rfl, ?_⟩
        cases b with
        | false =>
          refine itT (by decide) ?_
          refine ⟨_, rfl, gm, _, dx, _, _, rfl, s12 _ _ h1, T.c_Game, T.n_Game_own_table, rfl, _, rfl, gm, _, dx, _, _, rfl, s12 _ _ h1, T.c_Game, T.n_Game_own_goal, rfl, _, rfl, m, _, dm, _, _, rfl, s12 _ _ m1, T.c_Moment, T.n_Moment_kept, rfl, _, rfl, m, _, dm, _, _, rfl, s12 _ _ m1, T.c_Moment, T.n_Moment_free, rfl, ?_⟩
          refine ⟨t, kp, fp, Tb, g, Kp, free, rfl, hT.same s12, SqL.of (s12 _ _ m2), SqL.of (s12 _ _ m4), O.fo, nk, nl, fun H3 s3 nw => ?_, fun H3 r s3 w3 => ?_⟩
          · exact ⟨rfl, _, rfl, itT rfl (q _ (.str (handS false)) (s12.trans s3) ⟨false, rfl, fun h => (by cases h), fun h => absurd h (nw _ (Nat.le_refl _))⟩)⟩
          · exact ⟨rfl, _, rfl, itF rfl (q _ (.str (handS true)) (s12.trans s3) ⟨true, rfl, fun _ => w3 _ (Nat.le_refl _), fun _ => rfl⟩)⟩
        | true =>
          refine itF (by decide) ?_
          have lF : (ixs free).length = free.length := List.length_map _
          have f5 := O.fo.f5
          refine ⟨_, rfl, m, _, dm, _, _, rfl, s12 _ _ m1, T.c_Moment, T.n_Moment_free, rfl, fp, rfl, ⟨_, SqL.of (s12 _ _ m4)⟩, fun D hD => ?_⟩
          refine lc_w (walk_list (xs := ixs free)) (fun j => free[j]?.bind fun k => some (.bl (nxtB Tb g Kp free true k))) hD (by rw [lF]; omega) (fun H5 s5 => SqL.of (s5 _ _ (s12 _ _ m4))) (fun j z H5 H6 hj s5 hy take skip => ?_) fun H3 s3 hD3 => ?_
          · obtain ⟨rfl, hz⟩ := hy
            obtain ⟨k, hk, rfl⟩ := ix_at hz
            have s125 := s12.trans s5
            have hkf := List.mem_of_getElem? hk
            refine ⟨rfl, _, rfl, gm, dx, _, rfl, s125 _ _ h1, rfl, _, rfl, m, dm, _, rfl, s125 _ _ m1, rfl, _, rfl, m, true, Kp, cut, free, k, rfl, hM.same s125, O.lens.1, O.lens.2.1, O.lens.2.2, fun H7 m' Kp' cut' s7 nm' hM7 hx _ => ?_⟩
            have s17 := s125.trans s7
            refine ⟨gm, t, ml, dx, i, m', Tb, Kp', cut', free.filter (fun z => z != k), g, rfl, s17 _ _ h1, hT.same s17, hM7, O.nxt hkf (b := true) hx, fun H8 v s8 hv => ?_⟩
            obtain ⟨c3, rfl, hc3⟩ := hv
            have e3 : c3 = nxtB Tb g Kp free true k := by rw [Bool.eq_iff_iff, hc3]; exact nxtB_of O hkf hx
            refine ⟨rfl, take _ _ ?_ (s7.trans s8)⟩
            rw [hk]
            show some (V.bl (nxtB Tb g Kp free true k)) = _
            rw [← e3]
            cases c3 <;> rfl
          · rw [lF, range_fm free fun k => some (V.bl (nxtB Tb g Kp free true k)), fm_some] at hD3
            refine ⟨D, free.map (nxtB Tb g Kp free true), rfl, SqL.of (by rw [hD3, List.map_map]; rfl), ?_⟩
            have hany : (free.map (nxtB Tb g Kp free true)).any id = true ↔ WinB Tb g Kp free true := by
              rw [List.any_map, List.any_eq_true]
              unfold WinB
              cases hfl : free.length with
              | zero =>
                have : free = [] := List.length_eq_zero_iff.mp hfl
                subst this
                constructor
                · rintro ⟨x, hx, _⟩
                  simp at hx
                · intro h
                  exact absurd (show cl Tb.p Tb.vec (fun k => k ∈ Kp) g from h) nk
              | succ n =>
                constructor
                · rintro ⟨k, hk, e⟩
                  have e := nxtB_iff.mp e
                  rw [hfl] at e
                  exact .inr ⟨k, hk, win_congr hcl n (fun z => by simp) (fun z => Iff.rfl) e⟩
                · intro h
                  rcases (show cl Tb.p Tb.vec (fun k => k ∈ Kp) g ∨ ∃ y, y ∈ free ∧ Win (cl Tb.p Tb.vec) g n (fun z => z ∈ Kp ∨ z = y) (fun z => z ∈ free ∧ z ≠ y) false from h) with h | ⟨y, hy, h⟩
                  · exact absurd h nk
                  · refine ⟨y, hy, nxtB_iff.mpr ?_⟩
                    rw [hfl]
                    exact win_congr hcl n (fun z => by simp) (fun z => Iff.rfl) h
            cases hb : (free.map (nxtB Tb g Kp free true)).any id with
            | true => exact ⟨_, rfl, itT rfl (q _ (.str (handS true)) (s12.trans s3) ⟨true, rfl, fun _ => hany.mp hb, fun _ => rfl⟩)⟩
            | false => exact ⟨_, rfl, itF rfl (q _ (.str (handS false)) (s12.trans s3) ⟨false, rfl, fun h => (by cases h), fun h => absurd (hany.mpr h) (by rw [hb]; decide)⟩)⟩
def sp_winner (K : PySem.W.Frag) (a : At) : Sp := fun vs H Q _ => ∃ gm t T g m Kp cut free b, vs = [.ref gm] ∧ GameAt K a H gm t T g m Kp cut free b ∧ MoOk T g Kp cut free ∧
  ∀ H' c, Same H H' → (c = true ↔ WinB T g Kp free b) → Q (.str (handS c)) H'
theorem ok_Game_winner (T : Tx K mg a) : Fn P w K mg base 17 a.Game_winner (sp_winner K a) := by
  refine fn_d T.F_Game_winner sc_Game_winner (fun _ _ _ _ _ _ us hl => match us, hl with | [_], _ => rfl) (fun vs H Q E h => ?_) fun cdv A outer s H vs Q E hr h => ?_
  · obtain ⟨gm, t, T, g, m, Kp, cut, free, b, rfl, _⟩ := h
    rfl
  · obtain ⟨gm, t, Tb, g, m, Kp, cut, free, b, rfl, hG, O, q⟩ := h
    refine ⟨_, pss_one (ps_ret (pe_meth (pv 0) T.c_Game T.M_Game_winner_at (ok_Game_winner_at P w base T).ok (hr.mono (by decide)) (ok_Game_winner_at P w base T).b .nil pass0 (pa_cons (pe_meth0 (pv 0) T.c_Game T.M_Game_now (ok_Game_now P w base T).ok (hr.mono (by decide)) (ok_Game_now P w base T).b .nil pass0) pa_nil))), ?_⟩
    obtain ⟨hT, ⟨dx, ml, i, ms, h1, h2, h3, _⟩, hM⟩ := id hG
    refine ⟨_, rfl, gm, dx, _, rfl, h1, rfl, _, rfl, gm, dx, _, rfl, h1, rfl, gm, t, Tb, g, m, Kp, cut, free, b, rfl, hG, ?_⟩
    refine ⟨gm, t, ml, dx, i, m, Tb, Kp, cut, free, b, g, rfl, h1, hT, hM, O, fun H1 v s1 hv => ?_⟩
    obtain ⟨c, rfl, hc⟩ := hv
    exact q _ c s1 hc
/-- the winning rows -/
noncomputable def winL (T : Tab) (g : Nat) (Kp free : List Nat) (b : Bool) : List Nat := free.filter fun k => nxtB T g Kp free b k == b
def sp_winning (K : PySem.W.Frag) (a : At) : Sp := fun vs H Q _ => ∃ gm t T g m Kp cut free b, vs = [.ref gm] ∧ GameAt K a H gm t T g m Kp cut free b ∧ MoOk T g Kp cut free ∧ ¬ Over T g Kp free ∧
  ∀ H' l, Same H H' → H l = none → H' l = some (.lst (ixs (winL T g Kp free b))) → Q (.ref l) H'
theorem ok_Game_winning (T : Tx K mg a) : Fn P w K mg base 17 a.Game_winning (sp_winning K a) := by
  refine fn_d T.F_Game_winning sc_Game_winning (fun _ _ _ _ _ _ us hl => match us, hl with | [_], _ => rfl) (fun vs H Q E h => ?_) fun cdv A outer s H vs Q E hr h => ?_
  · obtain ⟨gm, t, T, g, m, Kp, cut, free, b, rfl, _⟩ := h
    rfl
  · obtain ⟨gm, t, Tb, g, m, Kp, cut, free, b, rfl, hG, O, no, q⟩ := h
    refine ⟨_, pss_cons (ps_set (i := 1) sc_Game_winning.nd rfl (by first | exact Or.inl rfl | exact Or.inr rfl) (pe_meth0 (pv 0) T.c_Game T.M_Game_now (ok_Game_now P w base T).ok (hr.mono (by decide)) (ok_Game_now P w base T).b .nil pass0))
        (pss_cons (ps_if (pt_cmpR op_isN (pe_meth0 (pv 0) T.c_Game T.M_Game_turn (ok_Game_turn P w base T).ok (hr.mono (by decide)) (ok_Game_turn P w base T).b .nil pass0) pe_non (nomark _)) (pss_one (ps_ret (pe_lst pa_nil))) pss_nil)
        (pss_one (ps_ret (pe_lc (own := [("row", 2)]) rfl sc_Game_winning.nd (pi_list (pe_fld (pv 1) rfl)) (blkOk_by (N := ["self", "moment", "row"]) (sc := defScope s_Game_winning) (by decide +kernel)) (fun _ _ _ _ _ => (pg_name (i := 2) sc_Game_winning.nd rfl (by first | exact Or.inl rfl | exact Or.inr rfl))) (fun _ _ _ _ _ => (pts_one (pt_cmpR op_eq (pe_meth (pv 0) T.c_Game T.M_Game_winner_at (ok_Game_winner_at P w base T).ok (hr.mono (by decide)) (ok_Game_winner_at P w base T).b .nil pass0 (pa_cons (pe_meth (pv 1) T.c_Moment T.M_Moment_behind (ok_Moment_behind P w base T).ok (hr.mono (by decide)) (ok_Moment_behind P w base T).b .nil pass0 (pa_cons (pv 2) pa_nil)) pa_nil)) (pe_fldK (K := K) (pv 1) rfl) (nomark _)))) (fun _ _ _ _ _ => (pv 2)))))), ?_⟩
    obtain ⟨hT, ⟨dx, ml, i, ms, h1, h2, h3, _⟩, hM⟩ := id hG
    obtain ⟨dm, kp, cp, fp, m1, m2, m3, m4⟩ := id hM
    refine ⟨_, rfl, gm, dx, _, rfl, h1, rfl, gm, t, Tb, g, m, Kp, cut, free, b, rfl, hG, ?_⟩
    refine ⟨_, rfl, gm, dx, _, rfl, h1, rfl, gm, t, Tb, g, m, Kp, cut, free, b, rfl, hG, O, fun _ _ h => absurd h no, fun H1 s1 _ => ⟨rfl, _, rfl, itF (by cases b <;> rfl) ?_⟩⟩
    have lF : (ixs free).length = free.length := List.length_map _
    have f5 := O.fo.f5
    refine ⟨_, rfl, m, _, dm, _, _, rfl, s1 _ _ m1, T.c_Moment, T.n_Moment_free, rfl, fp, rfl, ⟨_, SqL.of (s1 _ _ m4)⟩, fun D hD => ?_⟩
    refine lc_w (walk_list (xs := ixs free)) (fun j => free[j]?.bind fun k => if (nxtB Tb g Kp free b k == b) then some (.int (k : Int)) else none) hD (by rw [lF]; omega) (fun H5 s5 => SqL.of (s5 _ _ (s1 _ _ m4))) (fun j z H5 H6 hj s5 hy take skip => ?_) fun H3 s3 hD3 => ?_
    · obtain ⟨rfl, hz⟩ := hy
      obtain ⟨k, hk, rfl⟩ := ix_at hz
      have s125 := s1.trans s5
      have hkf := List.mem_of_getElem? hk
      refine ⟨rfl, _, rfl, gm, dx, _, rfl, s125 _ _ h1, rfl, _, rfl, m, dm, _, rfl, s125 _ _ m1, rfl, _, rfl, m, b, Kp, cut, free, k, rfl, hM.same s125, O.lens.1, O.lens.2.1, O.lens.2.2, fun H7 m' Kp' cut' s7 nm' hM7 hx _ => ?_⟩
      have s17 := s125.trans s7
      refine ⟨gm, t, ml, dx, i, m', Tb, Kp', cut', free.filter (fun z => z != k), !b, g, rfl, s17 _ _ h1, hT.same s17, hM7, O.nxt hkf hx, fun H8 v s8 hv => ?_⟩
      obtain ⟨c3, rfl, hc3⟩ := hv
      have e3 : c3 = nxtB Tb g Kp free b k := by rw [Bool.eq_iff_iff, hc3]; exact nxtB_of O hkf hx
      have s18 := s17.trans s8
      refine ⟨_, rfl, m, _, dm, _, _, rfl, s18 _ _ m1, T.c_Moment, T.n_Moment_hand, rfl, rfl, _, rfl, ?_⟩
      by_cases e : c3 = b
      · exact itT (by rw [e]; exact decide_eq_true rfl) ⟨_, rfl, take _ _ (by rw [hk]; show (if _ then _ else _) = some _; rw [← e3, e]; simp) (s7.trans s8)⟩
      · refine itF (by cases c3 <;> cases b <;> first | exact absurd rfl e | decide) (skip _ (by rw [hk]; show (if _ then _ else _) = none; rw [← e3]; simp [e]) (s7.trans s8))
    · rw [lF, range_fm free fun k => if (nxtB Tb g Kp free b k == b) then some (V.int (k : Int)) else none, fm_filter] at hD3
      exact q _ D (s1.trans s3) (s1.free hD) hD3
def sp_take (K : PySem.W.Frag) (a : At) : Sp := fun vs H Q _ => ∃ gm t T g m Kp cut free b, ∃ (row : Nat), vs = [.ref gm, .int (row : Int)] ∧ GameAt K a H gm t T g m Kp cut free b ∧ MoOk T g Kp cut free ∧ ¬ Over T g Kp free ∧ row ∈ free ∧
  ∀ H' m' Kp' cut' c, (∀ x o, H x = some o → x ≠ gm → H' x = some o) → GameAt K a H' gm t T g m' Kp' cut' (free.filter fun k => k != row) (!b) → Nxt Kp cut row b Kp' cut' → (c = true ↔ Over T g Kp' (free.filter fun k => k != row)) → (∀ x o, H x = some o → MoAp a H m x → MoAp a H' m' x) → Q (.bl c) H'
theorem ok_Game_take (T : Tx K mg a) : Fn P w K mg base 10 a.Game_take (sp_take K a) := by
  refine fn_d T.F_Game_take sc_Game_take (fun _ _ _ _ _ _ us hl => match us, hl with | [_, _], _ => rfl) (fun vs H Q E h => ?_) fun cdv A outer s H vs Q E hr h => ?_
  · obtain ⟨gm, t, T, g, m, Kp, cut, free, b, row, rfl, _⟩ := h
    rfl
  · obtain ⟨gm, t, Tb, g, m, Kp, cut, free, b, row, rfl, hG, O, no, hrow, q⟩ := h
    refine ⟨_, pss_cons (ps_if (pt_cmpR op_isN (pe_meth0 (pv 0) T.c_Game T.M_Game_turn (ok_Game_turn P w base T).ok (hr.mono (by decide)) (ok_Game_turn P w base T).b .nil pass0) pe_non (nomark _)) (pss_one ps_never) pss_nil)
        (pss_cons (ps_set (i := 2) sc_Game_take.nd rfl (by first | exact Or.inl rfl | exact Or.inr rfl) (pe_meth0 (pv 0) T.c_Game T.M_Game_now (ok_Game_now P w base T).ok (hr.mono (by decide)) (ok_Game_now P w base T).b .nil pass0))
        (pss_cons (ps_if (PW.pt (pw_or (pt_not (pt_val (pe_call (ok_is_below P w base T).ok (hr.mono (by decide)) (by rfl) T.g_is_below (ok_is_below P w base T).kp (ok_is_below P w base T).b .nil pass0 (pa_cons (pv 1) (pa_cons (pe_callB (call_lenOwn T.M_Rows_len (ok_Rows_len P w base T) (hr.mono (by decide))) (by rfl) T.b_len PySem.boot_len (pa_cons (pe_fld (pv 0) rfl) pa_nil)) pa_nil))))) (pw_or1 (pt_cmpR op_notIn_seq (pv 1) (pe_fld (pv 2) rfl) (by with_unfolding_all rfl))))) (pss_one ps_never) pss_nil)
        (pss_cons (ps_fld (pv 0) (pe_lst (StX.pa_star (pe_slice sl_list (pe_fld (pv 0) rfl) po_none (po_some (pe_op op_add (pe_fld (pv 0) rfl) pe_int))) (pa_cons (pe_meth (pv 2) T.c_Moment T.M_Moment_behind (ok_Moment_behind P w base T).ok (hr.mono (by decide)) (ok_Moment_behind P w base T).b .nil pass0 (pa_cons (pv 1) pa_nil)) pa_nil))) rfl)
        (pss_cons (ps_fldaug (pv 0) pe_int in_add)
        (pss_one (ps_ret (pe_cmpR op_isN (pe_meth0 (pv 0) T.c_Game T.M_Game_turn (ok_Game_turn P w base T).ok (hr.mono (by decide)) (ok_Game_turn P w base T).b .nil pass0) pe_non (nomark _)))))))), ?_⟩
    obtain ⟨hT, ⟨dx, ml, i, ms, h1, h2, h3, h4, h5⟩, hM⟩ := id hG
    obtain ⟨dm, kp, cp, fp, m1, m2, m3, m4⟩ := id hM
    obtain ⟨dt, ro, ras, ht, _⟩ := id hT.ob
    have n6 : Tb.rows.length ≤ 6 := O.fo.cop.ok.n6
    refine ⟨_, rfl, gm, dx, _, rfl, h1, rfl, gm, t, Tb, g, m, Kp, cut, free, b, rfl, hG, O, fun _ _ h => absurd h no, fun H1 s1 _ => ⟨rfl, _, rfl, itF (by cases b <;> rfl) ?_⟩⟩
    refine ⟨_, rfl, gm, dx, _, rfl, s1 _ _ h1, rfl, gm, t, Tb, g, m, Kp, cut, free, b, rfl, hG.same s1, ?_⟩
    have z1 : (0 : Int) ≤ ((Tb.rows.length : Nat) : Int) := by omega
    have z2 : ((Tb.rows.length : Nat) : Int) < 2 ^ 63 := by omega
    refine ⟨_, rfl, _, rfl, gm, _, dx, _, _, rfl, s1 _ _ h1, T.c_Game, T.n_Game_own_table, rfl, t, dt, _, rfl, s1 _ _ ht, t, Tb, rfl, hT.same s1, _, rfl, z1, z2, (row : Int), ((Tb.rows.length : Nat) : Int), rfl, _, rfl, ?_⟩
    have hgl : decide ((0 : Int) ≤ (row : Int) ∧ (row : Int) < ((Tb.rows.length : Nat) : Int)) = true := decide_eq_true (by have : row < Tb.rows.length := (O.fo.cop.rl row hrow).1; omega)
    refine itF (by rw [hgl]; rfl) ?_
    refine ⟨_, rfl, _, rfl, m, _, dm, _, _, rfl, s1 _ _ m1, T.c_Moment, T.n_Moment_free, rfl, fp, _, rfl, .inl (SqL.of (s1 _ _ m4)), rfl, flat_ixs _, _, rfl, ?_⟩
    refine itF (by show (!inV (.int (row : Int)) (ixs free)) = false; rw [in_ixs, decide_eq_true hrow]; rfl) ?_
    have lm : (ms.map V.ref).length = ms.length := List.length_map _
    -- the moments
    refine ⟨_, rfl, gm, _, dx, _, _, rfl, s1 _ _ h1, T.c_Game, T.n_Game_moments, rfl, _, rfl, gm, _, dx, _, _, rfl, s1 _ _ h1, T.c_Game, T.n_Game_at, rfl, (i : Int), (1 : Int), rfl, rfl, _, rfl, ml, _, rfl, SqL.of (s1 _ _ h2), fun p2 hp2 => ?_⟩
    have ecut : cutV (ms.map V.ref) none (some ((i : Int) + 1)) = ms.map V.ref := by
      rw [show ((i : Int) + 1) = ((i + 1 : Nat) : Int) from rfl, cut_take, h4, ← lm, List.take_length]
    rw [ecut]
    have s2 := same_upd (o := .lst (ms.map V.ref)) hp2
    have s12 := s1.trans s2
    refine ⟨p2, _, rfl, .inr (SqL.of upd_same), _, rfl, m, dm, _, rfl, s12 _ _ m1, rfl, _, rfl, m, b, Kp, cut, free, row, rfl, hM.same s12, O.lens.1, O.lens.2.1, O.lens.2.2, fun H3 m' Kp' cut' s3 nm' hM3 hx ap3 => ?_⟩
    have ea : ms.map V.ref ++ [V.ref m'] = (ms ++ [m']).map V.ref := by rw [List.map_append]; rfl
    refine ⟨by rw [ea, List.length_map, List.length_append]; exact Nat.le_trans (show _ ≤ 7 from by show ms.length + 1 ≤ 7; omega) (by decide), fun l2 hl2 => ?_⟩
    rw [ea]
    have s4 := same_upd (o := .lst ((ms ++ [m']).map V.ref)) hl2
    have s14 := s12.trans (s3.trans s4)
    have g4 := s14 _ _ h1
    have hM4 := hM3.same s4
    have hT4 := hT.same s14
    have m3b : ∃ o, H3 m' = some o := let ⟨_, _, _, _, e, _⟩ := hM3; ⟨_, e⟩
    have nml2 : m' ≠ l2 := let ⟨_, e⟩ := m3b; ne_of_none e hl2
    have apx : ∀ x o, H x = some o → MoAp a H m x → MoAp a (upd H3 l2 (.lst ((ms ++ [m']).map V.ref))) m' x := fun x o e ap => (ap3 x o (s12 _ _ e) (ap.like (by rw [s12 _ _ m1, m1]))).like (upd_ne nml2)
    have gl4 : upd H3 l2 (.lst ((ms ++ [m']).map V.ref)) l2 = some (.lst ((ms ++ [m']).map V.ref)) := upd_same
    have nm0 : H m' = none := s12.free nm'
    refine ⟨_, rfl, gm, _, dx, _, rfl, g4, T.c_Game, T.n_Game_moments, (by show 4 < 1000; decide), ?_⟩
    refine ⟨_, rfl, gm, _, dx, _, _, rfl, upd_same, T.c_Game, T.n_Game_at, rfl, (i : Int), (1 : Int), rfl, rfl, dx, _, upd_same, (by show 4 < 1000; decide), ?_⟩
    rw [upd_upd]
    have o4 : ∀ x o, H x = some o → x ≠ gm → upd H3 l2 (.lst ((ms ++ [m']).map V.ref)) x = some o := fun x o e _ => s14 _ _ e
    have nmg : m' ≠ gm := fun e => by rw [e, h1] at nm0; cases nm0
    have nlg : l2 ≠ gm := fun e => by rw [e, s12.trans s3 _ _ h1] at hl2; cases hl2
    generalize upd H3 l2 (.lst ((ms ++ [m']).map V.ref)) = H4 at *
    have On := O.nxt hrow hx
    have fl := free_less O.fo.nf hrow
    have hT5 : TabAt K a.Rows (upd H4 gm (.ins a.Game dx (gmF t l2 g (i + 1)))) t Tb := hT4.odd ⟨_, _, _, g4, rfl, rfl⟩ fun x o e n => by rw [upd_ne n]; exact e
    have hG5 : GameAt K a (upd H4 gm (.ins a.Game dx (gmF t l2 g (i + 1)))) gm t Tb g m' Kp' cut' (free.filter fun k => k != row) (!b) := by
      refine ⟨hT5, ⟨dx, l2, i + 1, ms ++ [m'], upd_same, by rw [upd_ne nlg]; exact gl4, by rw [List.getElem?_append_right (by omega), h4, Nat.sub_self]; rfl, by rw [List.length_append, h4]; rfl, by rw [List.length_append]; show ms.length + 1 + _ ≤ 6; omega⟩, ?_⟩
      obtain ⟨dm', kp', cp', fp', e1, e2, e3, e4⟩ := hM4
      have nl : ∀ {x xs}, H4 x = some (.lst xs) → x ≠ gm := fun {x xs} h e => by rw [e, g4] at h; cases h
      exact ⟨dm', kp', cp', fp', by rw [upd_ne nmg]; exact e1, by rw [upd_ne (nl e2)]; exact e2, by rw [upd_ne (nl e3)]; exact e3, by rw [upd_ne (nl e4)]; exact e4⟩
    have o5 : ∀ x o, H x = some o → x ≠ gm → upd H4 gm (.ins a.Game dx (gmF t l2 g (i + 1))) x = some o := fun x o e n => by rw [upd_ne n]; exact o4 x o e n
    have eo : HO.ins a.Game dx (putF "at" (.int ((i : Int) + 1)) (putF "moments" (.ref l2) (gmF t ml g i))) = HO.ins a.Game dx (gmF t l2 g (i + 1)) := rfl
    rw [eo]
    have g5 : upd H4 gm (.ins a.Game dx (gmF t l2 g (i + 1))) gm = some (.ins a.Game dx (gmF t l2 g (i + 1))) := upd_same
    have apx5 : ∀ x o, H x = some o → MoAp a H m x → MoAp a (upd H4 gm (.ins a.Game dx (gmF t l2 g (i + 1)))) m' x := fun x o e ap => (apx x o e ap).like (upd_ne nmg)
    have m5 : ∃ o, upd H4 gm (.ins a.Game dx (gmF t l2 g (i + 1))) m' = some o := let ⟨_, _, _, _, e, _⟩ := hG5.mo; ⟨_, e⟩
    generalize upd H4 gm (.ins a.Game dx (gmF t l2 g (i + 1))) = H5 at *
    obtain ⟨o5m, hm5⟩ := m5
    refine ⟨_, rfl, gm, dx, _, rfl, g5, rfl, gm, t, Tb, g, m', Kp', cut', free.filter (fun k => k != row), !b, rfl, hG5, On, fun H6 s6 ov => ⟨rfl, ?_⟩, fun H6 s6 nov => ⟨rfl, ?_⟩⟩
    · exact q _ m' Kp' cut' true (fun x o e n => s6 _ _ (o5 x o e n)) (hG5.same s6) hx ⟨fun _ => ov, fun _ => rfl⟩ fun x o e ap => (apx5 x o e ap).like (by rw [s6 _ _ hm5, hm5])
    · exact q _ m' Kp' cut' false (fun x o e n => s6 _ _ (o5 x o e n)) (hG5.same s6) hx ⟨fun h => (by cases h), fun h => absurd h nov⟩ fun x o e ap => (apx5 x o e ap).like (by rw [s6 _ _ hm5, hm5])
end
end FL
/-! Rows.__init__. -/
set_option Elab.async false
set_option linter.all false
set_option maxRecDepth 1000000
set_option maxHeartbeats 8000000
namespace FL
open PySem PySem.Spec PyProof.Rows L2
/-- rows as lists -/
def RwsAt (H : Hp) (rp : Addr) (rws : List (List Int)) : Prop := ∃ ras : List Addr, H rp = some (.lst (ras.map V.ref)) ∧ ras.length = rws.length ∧ ∀ (i : Nat) r, rws[i]? = some r → ∃ ra, ras[i]? = some ra ∧ H ra = some (.lst (r.map V.int))
theorem RwsAt.same {H H' : Hp} {rp : Addr} {rws : List (List Int)} (h : RwsAt H rp rws) (s : Same H H') : RwsAt H' rp rws := by
  obtain ⟨ras, h1, h2, h3⟩ := h
  exact ⟨ras, s _ _ h1, h2, fun i r hr => let ⟨ra, a, b⟩ := h3 i r hr; ⟨ra, a, s _ _ b⟩⟩
def redT (f : Int) (w : Nat) (rws : List (List Int)) : Tab := ⟨f, w, rws.map fun r => r.map fun x => if f > 0 then x % f else x⟩
theorem in_ints (x : Int) (l : List Int) : inV (.int x) (l.map V.int) = decide (x ∈ l) := by
  show (l.map V.int).any (fun y => eqV y (.int x)) = _
  rw [List.any_map, Bool.eq_iff_iff, List.any_eq_true, decide_eq_true_iff]
  constructor
  · rintro ⟨k, hk, e⟩
    have e : (k == x) = true := e
    exact eq_of_beq e ▸ hk
  · exact fun h => ⟨x, h, beq_self_eq_true x⟩
/-- a def, all whose defaults are given -/
theorem fn_d1 {P : Program} {w : World} {K : PySem.W.Frag} {mg : Str → Option Value} {base : Heap} {k : Nat} {f : Addr} {sp : Sp} {x qual : Str} {st : Stmt} {N ps : List Str} {v : V} (F : ∃ fd, FunD K x qual (defArgs st) (defBody st) (defScope st) [v] [] f fd) (S : FnScope N ps (defScope st))
    (h : ∀ (T : Addr) (kV doc pm : Value) (an : Option Addr) (cdv ct : Value) (us its : List Value), us.length = ps.length → its.length = 1 →
      ∃ k, bindArgs (PySem.W.fnOf x qual (defArgs st) (defBody st) (defScope st) (.ref T) kV doc pm an cdv ct) ⟨us, []⟩ = seqItems? (.ref T) >>= k ∧ k (some its.toArray) = pure (ps.zip (us ++ its.drop 1)))
    (len : ∀ vs H Q E, sp vs H Q E → vs.length = ps.length)
    (hbody : ∀ (cdv : Value) (A : Around) (outer : List Env) (s : Shared) (H : Hp) (vs : List V) (Q : VK) (E : XK), Room k (A.deeper (envOfC qual (defScope st) s.heap.objs.size f cdv)) → sp vs H Q E →
      ∃ t, PSs (cxOf CX0 P w K mg base N qual (defScope st) f cdv A outer s H E).nox (defBody st) t ∧ t { nx := fun _ H' => Q .non H', rt := Q } (start N vs) H) : Fn P w K mg base (k + 1) f sp := by
  obtain ⟨fd, F⟩ := F
  obtain ⟨ds, v1, v2⟩ := F.binds1 ps.length 1 (fun z => by cases z) rfl h
  have : ds = [] := by cases v1; rfl
  subst this
  refine ⟨⟨fd, ps, F.ok S len fun cdv A outer s H vs Q E hr hsp => ?_, v2⟩, F.kp⟩
  obtain ⟨t, h1, h2⟩ := hbody cdv A outer s H vs Q E hr hsp
  exact ⟨t, h1.nox, h2⟩
section
variable (P : Program) (w : World) {K : PySem.W.Frag} {mg : Str → Option Value} (base : Heap) {a : At}
def sp_is_row : Sp := fun vs H Q _ => ∃ (p : Addr) (r : List Int), vs = [.ref p, .int (r.length : Nat)] ∧ H p = some (.lst (r.map V.int)) ∧ r.length ≤ 12 ∧ ∀ H', Same H H' → Q (.bl true) H'
theorem ok_is_row (T : Tx K mg a) : Fn P w K mg base 3 a.is_row sp_is_row := by
  refine fn_d T.F_is_row sc_is_row (fun _ _ _ _ _ _ us hl => match us, hl with | [_, _], _ => rfl) (fun vs H Q E h => ?_) fun cdv A outer s H vs Q E hr h => ?_
  · obtain ⟨p, r, rfl, _⟩ := h
    rfl
  · obtain ⟨p, r, rfl, hp, h12, q⟩ := h
    refine ⟨_, pss_one (ps_ret (pe_and (pe_call (ok_is_list P w base T).ok (hr.mono (by decide)) (by rfl) T.g_is_list (ok_is_list P w base T).kp (ok_is_list P w base T).b .nil pass0 (pa_cons (pv 0) pa_nil)) (pe_and (pe_cmpR op_eq (pe_callB call_len_seq (by rfl) T.b_len PySem.boot_len (pa_cons (pv 0) pa_nil)) (pv 1) (nomark _)) (pe_one (pe_callB (cr_all rfl) (by rfl) T.b_all (by decide +kernel) (pa_cons (pe_lc (own := [("number", 2)]) rfl sc_is_row.nd (pi_list (pv 0)) (blkOk_by (N := ["value", "width", "number"]) (sc := defScope s_is_row) (by decide +kernel)) (fun _ _ _ _ _ => (pg_name (i := 2) sc_is_row.nd rfl (by first | exact Or.inl rfl | exact Or.inr rfl))) (fun _ _ _ _ _ => pts_nil) (fun _ _ _ _ _ => (pe_call (ok_is_integer P w base T).ok (hr.mono (by decide)) (by rfl) T.g_is_integer (ok_is_integer P w base T).kp (ok_is_integer P w base T).b .nil pass0 (pa_cons (pv 2) pa_nil)))) pa_nil)))))), ?_⟩
    have lr : (r.map V.int).length = r.length := List.length_map _
    refine ⟨_, rfl, .ref p, rfl, ⟨p, rfl, .inl ⟨_, hp⟩⟩, fun H1 s1 => ⟨true, rfl, itT rfl ?_⟩⟩
    refine ⟨_, rfl, p, _, rfl, .inl (SqL.of (s1 _ _ hp)), _, rfl, rfl, _, rfl, itT ?_ ?_⟩
    · rw [lr]
      exact decide_eq_true rfl
    refine ⟨_, rfl, p, rfl, ⟨_, SqL.of (s1 _ _ hp)⟩, fun D hD => ?_⟩
    refine lc_w (walk_list (xs := r.map V.int)) (fun j => r[j]?.bind fun z => some (.bl true)) hD (by rw [lr]; omega) (fun H5 s5 => SqL.of (s5 _ _ (s1 _ _ hp))) (fun j z H5 H6 hj s5 hy take skip => ?_) fun H5 s5 hD5 => ?_
    · obtain ⟨rfl, hz⟩ := hy
      obtain ⟨z, hz', rfl⟩ := int_at hz
      exact ⟨rfl, _, rfl, z, rfl, take _ _ (by rw [hz']; rfl) (Same.refl _)⟩
    · rw [lr, range_fm r fun z => some (V.bl true), fm_some] at hD5
      have ha : (r.map fun _ => true).all id = true := by rw [List.all_map, List.all_eq_true]; intro x _; rfl
      refine ⟨D, r.map fun _ => true, rfl, SqL.of (by rw [hD5, List.map_map]; rfl), ?_⟩
      rw [ha]
      exact q _ (s1.trans s5)
def sp_width_of : Sp := fun vs H Q _ => ∃ (rp : Addr) (rws : List (List Int)) (w : Nat), vs = [.ref rp] ∧ RwsAt H rp rws ∧ 0 < rws.length ∧ w ≤ 12 ∧ (∀ r, r ∈ rws → r.length = w) ∧ ∀ H', Same H H' → Q (.int (w : Int)) H'
theorem ok_width_of (T : Tx K mg a) : Fn P w K mg base 3 a.width_of sp_width_of := by
  refine fn_d T.F_width_of sc_width_of (fun _ _ _ _ _ _ us hl => match us, hl with | [_], _ => rfl) (fun vs H Q E h => ?_) fun cdv A outer s H vs Q E hr h => ?_
  · obtain ⟨rp, rws, w, rfl, _⟩ := h
    rfl
  · obtain ⟨rp, rws, wd, rfl, ⟨ras, h1, h2, h3⟩, h0, h12, hw, q⟩ := h
    refine ⟨_, pss_cons (ps_if (PW.pt (pw_or (pt_cmpR op_eq (pe_callB call_len_seq (by rfl) T.b_len PySem.boot_len (pa_cons (pv 0) pa_nil)) pe_int (nomark _)) (pw_or (pt_not (pt_val (pe_call (ok_is_list P w base T).ok (hr.mono (by decide)) (by rfl) T.g_is_list (ok_is_list P w base T).kp (ok_is_list P w base T).b .nil pass0 (pa_cons (pe_ix ix_list (pv 0) pe_int (fun _ _ => rfl)) pa_nil)))) (pw_or1 (pt_cmpR op_gt (pe_callB call_len_seq (by rfl) T.b_len PySem.boot_len (pa_cons (pe_ix ix_list (pv 0) pe_int (fun _ _ => rfl)) pa_nil)) (pe_glob (v := .int 12) rfl T.g_MOST_WIDTH.choose_spec ⟨_, rfl⟩) (nomark _)))))) (pss_one (ps_ret pe_int)) pss_nil)
        (pss_one (ps_ret (pe_callB call_len_seq (by rfl) T.b_len PySem.boot_len (pa_cons (pe_ix ix_list (pv 0) pe_int (fun _ _ => rfl)) pa_nil)))), ?_⟩
    obtain ⟨r0, hr0⟩ : ∃ r, rws[0]? = some r := ⟨rws[0], List.getElem?_eq_getElem h0⟩
    obtain ⟨ra, e1, e2⟩ := h3 0 r0 hr0
    have hw0 := hw r0 (List.mem_of_getElem? hr0)
    have lr : (r0.map V.int).length = wd := by rw [List.length_map]; exact hw0
    have hix : atI (ras.map V.ref) 0 = some (.ref ra) := at_nat (j := 0) (at_map V.ref e1)
    have lras : (ras.map V.ref).length = rws.length := by rw [List.length_map]; exact h2
    refine ⟨_, rfl, rp, _, rfl, .inl (SqL.of h1), rfl, _, rfl, itF ?_ ?_⟩
    · rw [lras, dec_int]
      exact beq_false_of_ne (by omega)
    refine ⟨_, rfl, rp, _, _, _, rfl, rfl, SqL.of h1, hix, .ref ra, rfl, ⟨ra, rfl, .inl ⟨_, e2⟩⟩, fun H1 s1 => ⟨true, rfl, itF rfl ?_⟩⟩
    refine ⟨_, rfl, rp, _, _, _, rfl, rfl, SqL.of (s1 _ _ h1), hix, ra, _, rfl, .inl (SqL.of (s1 _ _ e2)), _, _, rfl, rfl, _, rfl, itF ?_ ?_⟩
    · show decide ((12 : Int) < ((r0.map V.int).length : Nat)) = false
      rw [lr]
      exact decide_eq_false (by omega)
    refine ⟨_, rfl, rp, _, _, _, rfl, rfl, SqL.of (s1 _ _ h1), hix, ra, _, rfl, .inl (SqL.of (s1 _ _ e2)), ?_⟩
    rw [lr]
    exact q _ s1
def sp_Rows (K : PySem.W.Frag) (a : At) : Sp := fun vs H Q _ => ∃ (t dx rp : Addr) (rws : List (List Int)) (w : Nat) (f : Int), vs = [.ref t, .ref rp, .int f] ∧ H t = some (.ins a.Rows dx []) ∧ RwsAt H rp rws ∧ 0 < rws.length ∧ rws.length ≤ 6 ∧ w ≤ 12 ∧ (∀ r, r ∈ rws → r.length = w) ∧ f ∈ fields ∧
  ∀ H', (∀ x o, H x = some o → x ≠ t → H' x = some o) → TabAt K a.Rows H' t (redT f w rws) → Q .non H'
theorem ok_Rows_init (T : Tx K mg a) : Fn P w K mg base 4 a.Rows_init (sp_Rows K a) := by
  refine fn_d1 T.F_Rows_init sc_Rows_init (fun T kV doc pm an cdv ct us its hl h1 => match us, hl with | [_, _, _], _ => ⟨_, rfl, ?_⟩) (fun vs H Q E h => ?_) fun cdv A outer s H vs Q E hr h => ?_
  · match its, h1 with
    | [_], _ => rfl
  · obtain ⟨t, dx, rp, rws, w, f, rfl, _⟩ := h
    rfl
  · obtain ⟨t, dx, rp, rws, wd, f, rfl, ht, hR, h0, h6, h12, hw, hf, q⟩ := h
    refine ⟨_, pss_cons (ps_if (PW.pt (pw_or (pt_not (pt_val (pe_call (ok_is_integer P w base T).ok (hr.mono (by decide)) (by rfl) T.g_is_integer (ok_is_integer P w base T).kp (ok_is_integer P w base T).b .nil pass0 (pa_cons (pv 2) pa_nil)))) (pw_or1 (pt_cmpR op_notIn_seq (pv 2) (pe_glob (v := .ref a.FIELDS) rfl T.g_FIELDS rfl) (by with_unfolding_all rfl))))) (pss_one ps_never) pss_nil)
        (pss_cons (ps_if (pt_not (pt_val (pe_call (ok_is_list P w base T).ok (hr.mono (by decide)) (by rfl) T.g_is_list (ok_is_list P w base T).kp (ok_is_list P w base T).b .nil pass0 (pa_cons (pv 1) pa_nil)))) (pss_one ps_never) pss_nil)
        (pss_cons (ps_set (i := 3) sc_Rows_init.nd rfl (by first | exact Or.inl rfl | exact Or.inr rfl) (pe_call (ok_width_of P w base T).ok (hr.mono (by decide)) (by rfl) T.g_width_of (ok_width_of P w base T).kp (ok_width_of P w base T).b .nil pass0 (pa_cons (pv 1) pa_nil)))
        (pss_cons (ps_for PassesOwn.never rfl (pi_enum (by rfl) T.b_enumerate (pa_cons (pv 1) pa_nil)) (pg_tup rfl (pgs_cons (pg_name (i := 4) sc_Rows_init.nd rfl (by first | exact Or.inl rfl | exact Or.inr rfl)) (pgs_cons (pg_name (i := 5) sc_Rows_init.nd rfl (by first | exact Or.inl rfl | exact Or.inr rfl)) pgs_nil))) (pss_one (ps_if (pt_not (pt_val (pe_call (ok_is_row P w base T).ok (hr.mono (by decide)) (by rfl) T.g_is_row (ok_is_row P w base T).kp (ok_is_row P w base T).b .nil pass0 (pa_cons (pv 5) (pa_cons (pv 3) pa_nil))))) (pss_one ps_never) pss_nil)))
        (pss_cons (ps_if (pt_cmpR op_gt (pe_callB call_len_seq (by rfl) T.b_len PySem.boot_len (pa_cons (pv 1) pa_nil)) (pe_glob (v := .int 60) rfl T.g_MOST_ROWS.choose_spec ⟨_, rfl⟩) (nomark _)) (pss_one ps_never) pss_nil)
        (pss_cons (ps_fld (pv 0) (pv 2) rfl)
        (pss_cons (ps_fld (pv 0) (pv 3) rfl)
        (pss_one (ps_fld (pv 0) (pe_callTy call_tuple_of (by rfl) T.b_tuple (by decide +kernel) (pa_cons (pe_lc (own := [("row", 5)]) rfl sc_Rows_init.nd (pi_list (pv 1)) (blkOk_by (N := ["self", "rows", "field", "width", "index", "row", "x"]) (sc := defScope s_Rows_init) (by decide +kernel)) (fun _ _ _ _ _ => (pg_name (i := 5) sc_Rows_init.nd rfl (by first | exact Or.inl rfl | exact Or.inr rfl))) (fun _ _ _ _ _ => pts_nil) (fun _ _ _ _ _ => (pe_callTy (call_tuple_ofK (K := K)) (by rfl) T.b_tuple (by decide +kernel) (pa_cons (pe_lc (own := [("x", 6)]) rfl sc_Rows_init.nd (pi_listK (K := K) (pv 5)) (blkOk_by (by rfl)) (fun _ _ _ _ _ => (pg_name (i := 6) sc_Rows_init.nd rfl (by first | exact Or.inl rfl | exact Or.inr rfl))) (fun _ _ _ _ _ => pts_nil) (fun _ _ _ _ _ => (pe_ifExp (pt_cmpR op_gt (pv 2) pe_int (nomark _)) (pe_op op_mod (pv 6) (pv 2)) (pv 6)))) pa_nil)))) pa_nil)) rfl)))))))), ?_⟩
    obtain ⟨ras, r1, r2, r3⟩ := id hR
    have lras : (ras.map V.ref).length = rws.length := by rw [List.length_map]; exact r2
    refine ⟨_, rfl, f, rfl, true, rfl, itF rfl ?_⟩
    refine ⟨_, rfl, a.FIELDS, _, rfl, .inr (T.t_FIELDS H), rfl, rfl, _, rfl, itF ?_ ?_⟩
    · show (!inV (.int f) (fields.map V.int)) = false
      rw [in_ints, decide_eq_true hf]
      rfl
    refine ⟨_, rfl, .ref rp, rfl, ⟨rp, rfl, .inl ⟨_, r1⟩⟩, fun H1 s1 => ⟨true, rfl, itF rfl ?_⟩⟩
    refine ⟨_, rfl, rp, rws, wd, rfl, hR.same s1, h0, h12, hw, fun H2 s2 => ?_⟩
    have s12 := s1.trans s2
    refine ⟨_, rfl, rp, _, rfl, SqL.of (s12 _ _ r1), ?_⟩
    refine for_it (walk_enum (xs := ras.map V.ref)) (fun i σ H' => ∃ y4 y5 y6, σ = [some (.ref t), some (.ref rp), some (.int f), some (.int (wd : Int)), y4, y5, y6] ∧ Same H H') ⟨none, none, none, rfl, s12⟩ (fun i σ H' _ h => ?_) (fun i z σ H3 H4 hi hQ hy => ?_) fun σ H3 hQ => ?_
    · obtain ⟨_, _, _, rfl, s⟩ := h
      exact SqL.of (s _ _ r1)
    · obtain ⟨y4, y5, y6, rfl, s3⟩ := hQ
      obtain ⟨T4, x4, z4, rfl, hT4, rfl, hx4, hz4⟩ := hy
      obtain ⟨ra, hra, rfl⟩ := ref_at hz4
      have hil : i < rws.length := by rw [← r2]; exact (List.getElem?_eq_some_iff.mp hra).1
      obtain ⟨ra', e1, e2⟩ := r3 i rws[i] (List.getElem?_eq_getElem hil)
      rw [hra] at e1
      obtain rfl : ra = ra' := Option.some.inj e1
      have s4 := s3.trans (same_upd (o := .tup [x4, .ref ra]) hT4)
      have hwr := hw rws[i] (List.getElem_mem hil)
      refine ⟨T4, _, rfl, SqT.of upd_same, rfl, _, _, rfl, _, _, rfl, rfl, ?_⟩
      refine ⟨_, rfl, _, rfl, ra, rws[i], by rw [hwr]; rfl, s4 _ _ e2, by rw [hwr]; exact h12, fun H5 s5 => ⟨true, rfl, itF rfl ?_⟩⟩
      exact ⟨_, _, _, rfl, s4.trans s5⟩
    obtain ⟨y4, y5, y6, rfl, s3⟩ := hQ
    refine ⟨_, rfl, rp, _, rfl, .inl (SqL.of (s3 _ _ r1)), _, _, rfl, rfl, _, rfl, itF ?_ ?_⟩
    · show decide ((60 : Int) < ((ras.map V.ref).length : Nat)) = false
      rw [lras]
      exact decide_eq_false (by omega)
    have g3 := s3 _ _ ht
    refine ⟨_, rfl, _, rfl, t, _, dx, _, rfl, g3, T.c_Rows, T.n_Rows_own_field, (by show 0 < 1000; decide), ?_⟩
    refine ⟨_, rfl, _, rfl, t, _, dx, _, rfl, upd_same, T.c_Rows, T.n_Rows_own_width, (by show 1 < 1000; decide), ?_⟩
    rw [upd_upd]
    have o4 : ∀ x o, H x = some o → x ≠ t → upd H3 t (.ins a.Rows dx (putF "own_width" (.int (wd : Int)) (putF "own_field" (.int f) []))) x = some o := fun x o e n => by rw [upd_ne n]; exact s3 _ _ e
    have g4 : upd H3 t (.ins a.Rows dx (putF "own_width" (.int (wd : Int)) (putF "own_field" (.int f) []))) t = some (.ins a.Rows dx (putF "own_width" (.int (wd : Int)) (putF "own_field" (.int f) []))) := upd_same
    have nlt : ∀ {x xs}, H x = some (.lst xs) → x ≠ t := fun {x xs} h e => by rw [e, ht] at h; cases h
    generalize upd H3 t (.ins a.Rows dx (putF "own_width" (.int (wd : Int)) (putF "own_field" (.int f) []))) = H4 at *
    have r14 := o4 _ _ r1 (nlt r1)
    refine ⟨_, rfl, rp, rfl, ⟨_, SqL.of r14⟩, fun D hD => ?_⟩
    refine lc_refs (walk_list (xs := ras.map V.ref)) (fun j c H => ∃ r, rws[j]? = some r ∧ H c = some (.tup ((r.map fun x => if f > 0 then x % f else x).map V.int))) hD (by rw [lras]; omega) (fun H5 s5 => SqL.of (s5 _ _ r14)) (fun j c H H' cs h n _ e => let ⟨r, h1, h2⟩ := h; ⟨r, h1, e _ _ n h2⟩) (fun j z H5 H6 hj s5 hy _ take => ?_) fun H5 cs s5 hD5 hl nd hcs => ?_
    · obtain ⟨rfl, hz⟩ := hy
      obtain ⟨ra, hra, rfl⟩ := ref_at hz
      have hil : j < rws.length := by rw [← r2]; exact (List.getElem?_eq_some_iff.mp hra).1
      have hrj : rws[j]? = some rws[j] := List.getElem?_eq_getElem hil
      obtain ⟨ra', e1, e2⟩ := r3 j rws[j] hrj
      rw [hra] at e1
      obtain rfl : ra = ra' := Option.some.inj e1
      have hwr := hw rws[j] (List.getElem_mem hil)
      generalize rws[j] = r at *
      have e6 := s5 _ _ (o4 _ _ e2 (nlt e2))
      have lr : (r.map V.int).length = r.length := List.length_map _
      refine ⟨rfl, _, rfl, ra, rfl, ⟨_, SqL.of e6⟩, fun D2 hD2 => ?_⟩
      refine lc_w (walk_list (xs := r.map V.int)) (fun i => r[i]?.bind fun x => some (.int (if f > 0 then x % f else x))) hD2 (by rw [lr]; omega) (fun H7 s7 => SqL.of (s7 _ _ e6)) (fun i z H7 H8 hi s7 hy take2 skip2 => ?_) fun H7 s7 hD7 => ?_
      · obtain ⟨rfl, hz2⟩ := hy
        obtain ⟨x, hx, rfl⟩ := int_at hz2
        refine ⟨rfl, _, rfl, f, 0, rfl, rfl, _, rfl, ?_⟩
        by_cases hp : (0 : Int) < f
        · exact itT (decide_eq_true hp) ⟨_, rfl, _, rfl, x, f, rfl, rfl, hp, take2 _ _ (by rw [hx]; show some (V.int (if f > 0 then x % f else x)) = _; rw [if_pos hp]) (Same.refl _)⟩
        · exact itF (decide_eq_false hp) ⟨_, rfl, take2 _ _ (by rw [hx]; show some (V.int (if f > 0 then x % f else x)) = _; rw [if_neg hp]) (Same.refl _)⟩
      · rw [lr, range_fm r fun x => some (V.int (if f > 0 then x % f else x)), fm_some] at hD7
        refine ⟨D2, _, rfl, .inl ⟨SqL.of hD7, fun l hl => ?_⟩⟩
        have s8 := same_upd (o := .tup (r.map fun x => V.int (if f > 0 then x % f else x))) hl
        refine take l _ ⟨r, hrj, ?_⟩ (s7.free hl) ⟨_, upd_same⟩ (s7.trans s8)
        rw [upd_same, List.map_map]
        rfl
    · refine ⟨D, _, rfl, .inl ⟨SqL.of hD5, fun l hl9 => ?_⟩⟩
      have s6 := same_upd (o := .tup (cs.map V.ref)) hl9
      have s46 := s5.trans s6
      have g6 := s46 _ _ g4
      refine ⟨_, rfl, t, _, dx, _, rfl, g6, T.c_Rows, T.n_Rows_own_rows, (by show 2 < 1000; decide), ?_⟩
      have o6 : ∀ x o, upd H5 l (.tup (cs.map V.ref)) x = some o → x ≠ t → upd (upd H5 l (.tup (cs.map V.ref))) t (.ins a.Rows dx (tabF f wd l)) x = some o := fun x o e n => by rw [upd_ne n]; exact e
      have nlt2 : l ≠ t := fun e => by rw [e, s5 _ _ g4] at hl9; cases hl9
      refine q _ (fun x o e n => o6 _ _ (s46 _ _ (o4 x o e n)) n) ⟨⟨dx, l, cs, upd_same, SqT.of (o6 _ _ upd_same nlt2), ?_, fun i r hr => ?_⟩⟩
      · show cs.length = (rws.map _).length
        rw [hl, lras, List.length_map]
      · have hr : (rws.map fun r => r.map fun x => if f > 0 then x % f else x)[i]? = some r := hr
        rw [List.getElem?_map] at hr
        obtain ⟨r0, hr0, rfl⟩ := Option.map_eq_some_iff.mp hr
        have hil : i < cs.length := by rw [hl, lras]; exact (List.getElem?_eq_some_iff.mp hr0).1
        obtain ⟨⟨r', e1, e2⟩, n1, _⟩ := hcs i cs[i] (List.getElem?_eq_getElem hil)
        rw [hr0] at e1
        obtain rfl : r0 = r' := Option.some.inj e1
        exact ⟨cs[i], List.getElem?_eq_getElem hil, SqT.of (o6 _ _ (s6 _ _ e2) fun e => by rw [e, g4] at n1; cases n1)⟩
end
end FL
/-! The law's draws. -/
set_option Elab.async false
set_option linter.all false
set_option maxRecDepth 1000000
set_option maxHeartbeats 8000000
namespace FL
open PySem PySem.Spec PyProof.Rows L2
def SrcAt (H : Hp) (src : Addr) (n : Nat) : Prop := ∃ (g sd c : Int), H src = some (.lst [.int g, .int sd, .int c]) ∧ 0 ≤ g ∧ 0 ≤ sd ∧ sd < 2147483647 ∧ 0 ≤ c ∧ c ≤ n
theorem SrcAt.same {H H' : Hp} {src : Addr} {n : Nat} (h : SrcAt H src n) (s : Same H H') : SrcAt H' src n := by
  obtain ⟨g, sd, c, h1, h2⟩ := h
  exact ⟨g, sd, c, s _ _ h1, h2⟩
theorem SrcAt.mono {H : Hp} {src : Addr} {n m : Nat} (h : SrcAt H src n) (e : n ≤ m) : SrcAt H src m := by
  obtain ⟨g, sd, c, h1, h2, h3, h4, h5, h6⟩ := h
  exact ⟨g, sd, c, h1, h2, h3, h4, h5, by omega⟩
/-- all but one address stand -/
def But (x : Addr) (H H' : Hp) : Prop := ∀ p o, H p = some o → p ≠ x → H' p = some o
theorem sbut {x : Addr} {H H' : Hp} (s : Same H H') : But x H H' := fun p o e _ => s p o e
theorem But.trans {x : Addr} {H H' H2 : Hp} (s : But x H H') (t : But x H' H2) : But x H H2 := fun p o e n => t p o (s p o e n) n
section
variable (P : Program) (w : World) {K : PySem.W.Frag} {mg : Str → Option Value} (base : Heap) {a : At}
def sp_source (K : PySem.W.Frag) : Sp := fun vs H Q _ => ∃ (p : Addr) (ns : List Int), vs = [.ref p] ∧ SqL K H p (ns.map V.int) ∧ ∀ H' src, Same H H' → H src = none → SrcAt H' src 0 → Q (.ref src) H'
theorem ok__law_source (T : Tx K mg a) : Fn P w K mg base 1 a._law_source (sp_source K) := by
  refine fn_d T.F__law_source sc__law_source (fun _ _ _ _ _ _ us hl => match us, hl with | [_], _ => rfl) (fun vs H Q E h => ?_) fun cdv A outer s H vs Q E hr h => ?_
  · obtain ⟨p, ns, rfl, _⟩ := h
    rfl
  · obtain ⟨p, ns, rfl, hp, q⟩ := h
    refine ⟨_, pss_cons (ps_asg (pe_tup (pa_cons pe_int (pa_cons pe_int pa_nil))) (pg_tup rfl (pgs_cons (pg_name (i := 1) sc__law_source.nd rfl (by first | exact Or.inl rfl | exact Or.inr rfl)) (pgs_cons (pg_name (i := 2) sc__law_source.nd rfl (by first | exact Or.inl rfl | exact Or.inr rfl)) pgs_nil))))
        (pss_cons (ps_for PassesOwn.never rfl (pi_list (pv 0)) (pg_name (i := 3) sc__law_source.nd rfl (by first | exact Or.inl rfl | exact Or.inr rfl)) (pss_cons (ps_if (PW.pt (pw_and (pt_cmpR op_eq (pv 1) pe_int (nomark _)) (pw_and1 (pt_cmpR op_ge (pv 3) (pe_op op_pow pe_int pe_int) (nomark _))))) (pss_one (ps_set (i := 1) sc__law_source.nd rfl (by first | exact Or.inl rfl | exact Or.inr rfl) (pv 3))) pss_nil)
        (pss_one (ps_set (i := 2) sc__law_source.nd rfl (by first | exact Or.inl rfl | exact Or.inr rfl) (pe_op op_mod (pe_callTy call_int1 (by rfl) T.b_int (by decide +kernel) (pa_cons (pe_op op_add (pe_op op_add (pe_op op_mulW (pv 2) pe_int) (pv 3)) pe_int) pa_nil)) pe_int)))))
        (pss_one (ps_ret (pe_lst (pa_cons (pv 1) (pa_cons (pv 2) (pa_cons pe_int pa_nil))))))), ?_⟩
    refine ⟨(by show 2 ≤ sizeLine; decide), fun tp htp => ⟨tp, _, rfl, SqT.of upd_same, rfl, _, _, rfl, _, _, rfl, rfl, ?_⟩⟩
    have s1 := same_upd (o := .tup [.int 0, .int 17]) htp
    refine ⟨_, rfl, p, rfl, ⟨_, same_lst s1 hp⟩, ?_⟩
    refine for_it (walk_list (xs := ns.map V.int)) (fun i σ H' => ∃ (g sd : Int) (y3 : Option V), σ = [some (.ref p), some (.int g), some (.int sd), y3] ∧ Same H H' ∧ 0 ≤ g ∧ 0 ≤ sd ∧ sd < 2147483647) ⟨0, 17, none, rfl, s1, by decide, by decide, by decide⟩ (fun i σ H' _ h => ?_) (fun i z σ H2 H3 hi hQ hy => ?_) fun σ H2 hQ => ?_
    · obtain ⟨_, _, _, rfl, s, _⟩ := h
      exact same_lst s hp
    · obtain ⟨g, sd, y3, rfl, s2, g0, d0, d1⟩ := hQ
      obtain ⟨rfl, hz⟩ := hy
      obtain ⟨c, hc, rfl⟩ := int_at hz
      have fin : ∀ g' : Int, 0 ≤ g' → ∃ (g sd' : Int) (y3 : Option V), [some (V.ref p), some (V.int g'), some (V.int ((sd * 31 + c + 7) % 2147483647)), some (V.int c)] = [some (.ref p), some (.int g), some (.int sd'), y3] ∧ Same H H3 ∧ 0 ≤ g ∧ 0 ≤ sd' ∧ sd' < 2147483647 := fun g' h => ⟨g', _, _, rfl, s2, h, Int.emod_nonneg _ (by decide), Int.emod_lt_of_pos _ (by decide)⟩
      refine ⟨_, rfl, rfl, _, rfl, ?_⟩
      by_cases hg : g = 0
      · refine itT (by rw [dec_int, hg]; rfl) ?_
        refine ⟨_, rfl, (10 : Int), (18 : Int), rfl, rfl, ⟨by decide, by decide, by decide⟩, c, _, rfl, rfl, _, rfl, ?_⟩
        by_cases hc2 : (10 : Int) ^ (18 : Int).toNat ≤ c
        · refine itT (decide_eq_true hc2) ?_
          exact ⟨_, rfl, ⟨_, rfl, sd, 31, rfl, rfl, wide_mul (a := 31) (b := 5) (by omega) (by decide) (by decide) (by decide) (by decide), _, rfl, _, _, rfl, rfl, _, _, rfl, rfl, .inl ⟨_, rfl, _, _, rfl, rfl, (by show (0 : Int) < 2147483647; decide), fin _ (Int.le_trans (by decide) hc2)⟩⟩⟩
        · refine itF (decide_eq_false hc2) ?_
          exact ⟨_, rfl, sd, 31, rfl, rfl, wide_mul (a := 31) (b := 5) (by omega) (by decide) (by decide) (by decide) (by decide), _, rfl, _, _, rfl, rfl, _, _, rfl, rfl, .inl ⟨_, rfl, _, _, rfl, rfl, (by show (0 : Int) < 2147483647; decide), fin _ g0⟩⟩
      · refine itF (by rw [dec_int]; exact beq_false_of_ne hg) (itF rfl ?_)
        exact ⟨_, rfl, sd, 31, rfl, rfl, wide_mul (a := 31) (b := 5) (by omega) (by decide) (by decide) (by decide) (by decide), _, rfl, _, _, rfl, rfl, _, _, rfl, rfl, .inl ⟨_, rfl, _, _, rfl, rfl, (by show (0 : Int) < 2147483647; decide), fin _ g0⟩⟩
    · obtain ⟨g, sd, y3, rfl, s2, g0, d0, d1⟩ := hQ
      refine ⟨_, rfl, _, rfl, (by show 3 ≤ sizeLine; decide), fun src hsrc => ?_⟩
      exact q _ src (s2.trans (same_upd hsrc)) (s2.free hsrc) ⟨g, sd, 0, upd_same, g0, d0, d1, by decide, by decide⟩
def sp_draw : Sp := fun vs H Q _ => ∃ (src : Addr) (n : Nat) (many : Nat), vs = [.ref src, .int (many : Int)] ∧ SrcAt H src n ∧ n ≤ 100000 ∧ 0 < many ∧ many ≤ 1000 ∧ ∀ H' (d : Nat), But src H H' → SrcAt H' src (n + 1) → d < many → Q (.int (d : Int)) H'
theorem ok__law_draw (T : Tx K mg a) : Fn P w K mg base 1 a._law_draw sp_draw := by
  refine fn_d T.F__law_draw sc__law_draw (fun _ _ _ _ _ _ us hl => match us, hl with | [_, _], _ => rfl) (fun vs H Q E h => ?_) fun cdv A outer s H vs Q E hr h => ?_
  · obtain ⟨src, n, many, rfl, _⟩ := h
    rfl
  · obtain ⟨src, n, many, rfl, ⟨g, sd, c, h1, g0, d0, d1, c0, c1⟩, hn, m0, m1, q⟩ := h
    refine ⟨_, pss_cons (ps_asg (pe_op op_add (pe_ix ix_list (pv 0) pe_int (fun _ _ => rfl)) pe_int) (pg_sub (pv 0) pe_int set_list))
        (pss_cons (ps_if (pt_cmpR op_gt (pe_ix ix_list (pv 0) pe_int (fun _ _ => rfl)) pe_int (nomark _)) (pss_cons (ps_set (i := 2) sc__law_draw.nd rfl (by first | exact Or.inl rfl | exact Or.inr rfl) (pe_op op_mod (pe_callTy call_int1 (by rfl) T.b_int (by decide +kernel) (pa_cons (pe_ix ix_list (pv 0) pe_int (fun _ _ => rfl)) pa_nil)) (pv 1)))
        (pss_cons (ps_asg (pe_op op_fdivW (pe_ix ix_list (pv 0) pe_int (fun _ _ => rfl)) (pv 1)) (pg_sub (pv 0) pe_int set_list))
        (pss_one (ps_ret (pv 2))))) pss_nil)
        (pss_cons (ps_set (i := 3) sc__law_draw.nd rfl (by first | exact Or.inl rfl | exact Or.inr rfl) (pe_op op_mod (pe_op op_pow (pe_op op_add (pe_ix ix_list (pv 0) pe_int (fun _ _ => rfl)) (pe_op op_mulW pe_int (pe_ix ix_list (pv 0) pe_int (fun _ _ => rfl)))) pe_int) pe_int))
        (pss_one (ps_ret (pe_op op_mod (pe_op op_mod (pe_op op_pow (pe_op op_add (pe_op op_add (pe_op op_mulW (pv 3) pe_int) (pe_op op_mulW (pe_op op_mulW pe_int (pe_ix ix_list (pv 0) pe_int (fun _ _ => rfl))) (pe_ix ix_list (pv 0) pe_int (fun _ _ => rfl)))) pe_int) pe_int) pe_int) (pv 1)))))), ?_⟩
    have e2 : ∀ (x y z : V), atI [x, y, z] (2 : Int) = some z := fun x y z => at_nat (j := 2) rfl
    have e1 : ∀ (x y z : V), atI [x, y, z] (1 : Int) = some y := fun x y z => at_nat (j := 1) rfl
    have e0 : ∀ (x y z : V), atI [x, y, z] (0 : Int) = some x := fun x y z => at_nat (j := 0) rfl
    refine ⟨_, rfl, src, _, _, _, rfl, rfl, SqL.of h1, e2 _ _ _, _, _, rfl, rfl, _, rfl, src, [.int g, .int sd, .int c], (2 : Int), 2, rfl, rfl, h1, rfl, ?_⟩
    have h2 : upd H src (.lst ([V.int g, .int sd, .int c].set 2 (.int (c + 1)))) src = some (.lst [.int g, .int sd, .int (c + 1)]) := upd_same
    have b2 : But src H (upd H src (.lst ([V.int g, .int sd, .int c].set 2 (.int (c + 1))))) := fun x o e n => by rw [upd_ne n]; exact e
    show tSeq _ _ _ _ (upd H src (.lst ([V.int g, .int sd, .int c].set 2 (.int (c + 1)))))
    generalize upd H src (.lst ([V.int g, .int sd, .int c].set 2 (.int (c + 1)))) = H2 at *
    refine ⟨_, rfl, src, _, _, _, rfl, rfl, SqL.of h2, e0 _ _ _, _, _, rfl, rfl, _, rfl, ?_⟩
    by_cases hg : (1 : Int) < g
    · refine itT (decide_eq_true hg) ?_
      refine ⟨_, rfl, src, _, _, _, rfl, rfl, SqL.of h2, e0 _ _ _, .inl ⟨_, rfl, _, rfl, g, (many : Int), rfl, rfl, (by omega), ?_⟩⟩
      refine ⟨_, rfl, src, _, _, _, rfl, rfl, SqL.of h2, e0 _ _ _, _, rfl, g, (many : Int), rfl, rfl, wide_div (b := 10) (by omega) (by omega) (by decide) (by decide), _, rfl, src, [.int g, .int sd, .int (c + 1)], (0 : Int), 0, rfl, rfl, h2, rfl, ?_⟩
      refine ⟨_, rfl, ?_⟩
      have ed : g % (many : Int) = ((g % (many : Int)).toNat : Nat) := by
        have := Int.emod_nonneg g (show (many : Int) ≠ 0 by omega)
        omega
      show Q (.int (g % (many : Int))) _
      rw [ed]
      refine q _ _ (b2.trans fun x o e n => by rw [upd_ne n]; exact e) ⟨g / (many : Int), sd, c + 1, upd_same, Int.ediv_nonneg g0 (by omega), d0, d1, by omega, by omega⟩ ?_
      have := Int.emod_lt_of_pos g (show (0 : Int) < many by omega)
      omega
    · refine itF (decide_eq_false hg) ?_
      have x0 : 0 ≤ sd + 7919 * (c + 1) := by omega
      have x1 : (sd + 7919 * (c + 1)).natAbs < 2 ^ 64 := by omega
      refine ⟨_, rfl, src, _, _, _, rfl, rfl, SqL.of h2, e1 _ _ _, _, rfl, src, _, _, _, rfl, rfl, SqL.of h2, e2 _ _ _, (7919 : Int), c + 1, rfl, rfl, wide_mul (a := 13) (b := 17) (by decide) (by omega) (by decide) (by decide) (by decide), _, _, rfl, rfl, _, (5 : Int), rfl, rfl, ⟨by decide, by decide, x1⟩, _, (2147483629 : Int), rfl, rfl, (by show (0 : Int) < 2147483629; decide), ?_⟩
      show gName 3 (.int ((sd + 7919 * (c + 1)) ^ (5 : Int).toNat % 2147483629)) _ _ _
      have m1' := Int.emod_lt_of_pos ((sd + 7919 * (c + 1)) ^ (5 : Int).toNat) (show (0 : Int) < 2147483629 by decide)
      have m0' := Int.emod_nonneg ((sd + 7919 * (c + 1)) ^ (5 : Int).toNat) (show (2147483629 : Int) ≠ 0 by decide)
      generalize (sd + 7919 * (c + 1)) ^ (5 : Int).toNat % 2147483629 = M at *
      have D0 : 0 ≤ 16807 * (c + 1) := by omega
      have D1 : 16807 * (c + 1) ≤ 16807 * 100001 := by omega
      have E0 : 0 ≤ 16807 * (c + 1) * (c + 1) := Int.mul_nonneg D0 (by omega)
      have E1 : 16807 * (c + 1) * (c + 1) ≤ 16807 * 100001 * 100001 := Int.mul_le_mul D1 (by omega) (by omega) (by decide)
      refine ⟨_, rfl, M, (48271 : Int), rfl, rfl, wide_mul (a := 31) (b := 16) (by omega) (by decide) (by decide) (by decide) (by decide), ?_⟩
      refine ⟨_, rfl, src, _, _, _, rfl, rfl, SqL.of h2, e2 _ _ _, (16807 : Int), c + 1, rfl, rfl, wide_mul (a := 15) (b := 17) (by decide) (by omega) (by decide) (by decide) (by decide), ?_⟩
      refine ⟨_, rfl, src, _, _, _, rfl, rfl, SqL.of h2, e2 _ _ _, 16807 * (c + 1), c + 1, rfl, rfl, wide_mul (a := 32) (b := 17) (by omega) (by omega) (by decide) (by decide) (by decide), ?_⟩
      refine ⟨_, _, rfl, rfl, _, (11 : Int), rfl, rfl, _, (3 : Int), rfl, rfl, ⟨by decide, by decide, ?_⟩, _, (1000000007 : Int), rfl, rfl, (by show (0 : Int) < 1000000007; decide), _, rfl, _, (many : Int), rfl, rfl, (by show (0 : Int) < many; omega), ?_⟩
      · show (M * 48271 + 16807 * (c + 1) * (c + 1) + 11).natAbs < 2 ^ 64
        omega
      · generalize (M * 48271 + 16807 * (c + 1) * (c + 1) + 11) ^ (3 : Int).toNat % 1000000007 = Z
        have ed : Z % (many : Int) = ((Z % (many : Int)).toNat : Nat) := by
          have := Int.emod_nonneg Z (show (many : Int) ≠ 0 by omega)
          omega
        show Q (.int (Z % (many : Int))) _
        rw [ed]
        refine q _ _ b2 ⟨g, sd, c + 1, h2, g0, d0, d1, by omega, by omega⟩ ?_
        have := Int.emod_lt_of_pos Z (show (0 : Int) < many by omega)
        omega
end
end FL
/-! The law's rows and games drawn. -/
set_option Elab.async false
set_option linter.all false
set_option maxRecDepth 1000000
set_option maxHeartbeats 8000000
namespace FL
open PySem PySem.Spec PyProof.Rows L2
/-- rows found, apart from the source -/
def FndAt (H : Hp) (src fo : Addr) (rws : List (List Int)) : Prop := fo ≠ src ∧ ∃ ras : List Addr, H fo = some (.lst (ras.map V.ref)) ∧ ras.length = rws.length ∧ ∀ (i : Nat) r, rws[i]? = some r → ∃ ra, ras[i]? = some ra ∧ ra ≠ src ∧ ra ≠ fo ∧ H ra = some (.lst (r.map V.int))
theorem FndAt.but {H H' : Hp} {src fo : Addr} {rws : List (List Int)} (h : FndAt H src fo rws) (b : But src H H') : FndAt H' src fo rws := by
  obtain ⟨h0, ras, h1, h2, h3⟩ := h
  exact ⟨h0, ras, b _ _ h1 h0, h2, fun i r hr => let ⟨ra, a1, a2, a3, a4⟩ := h3 i r hr; ⟨ra, a1, a2, a3, b _ _ a4 a2⟩⟩
theorem FndAt.rws {H : Hp} {src fo : Addr} {rws : List (List Int)} (h : FndAt H src fo rws) : RwsAt H fo rws := by
  obtain ⟨_, ras, h1, h2, h3⟩ := h
  exact ⟨ras, h1, h2, fun i r hr => let ⟨ra, a1, _, _, a4⟩ := h3 i r hr; ⟨ra, a1, a4⟩⟩
theorem FndAt.push {H : Hp} {src fo rw : Addr} {rws : List (List Int)} {r : List Int} (h : FndAt H src fo rws) {ras : List Addr} (hf : H fo = some (.lst (ras.map V.ref))) (hr : H rw = some (.lst (r.map V.int))) (n1 : rw ≠ src) (n2 : rw ≠ fo) :
    FndAt (upd H fo (.lst (ras.map V.ref ++ [.ref rw]))) src fo (rws ++ [r]) := by
  obtain ⟨h0, ras', h1, h2, h3⟩ := h
  rw [hf] at h1
  have e5 : ras = ras' := List.map_inj_right (fun x y h => V.ref.inj h) |>.mp (by injection h1 with h1; injection h1)
  subst e5
  refine ⟨h0, ras ++ [rw], by rw [upd_same, List.map_append]; rfl, by rw [List.length_append, List.length_append, h2]; rfl, fun i z hz => ?_⟩
  by_cases hi : i < rws.length
  · rw [List.getElem?_append_left hi] at hz
    obtain ⟨ra, a1, a2, a3, a4⟩ := h3 i z hz
    exact ⟨ra, by rw [List.getElem?_append_left (by omega)]; exact a1, a2, a3, by rw [upd_ne a3]; exact a4⟩
  · rw [List.getElem?_append_right (by omega)] at hz
    have hj : i = rws.length := by
      have : i - rws.length < 1 := (List.getElem?_eq_some_iff.mp hz).1
      omega
    subst hj
    rw [Nat.sub_self] at hz
    have : r = z := Option.some.inj hz
    subst this
    exact ⟨rw, by rw [List.getElem?_append_right (by omega), h2, Nat.sub_self]; rfl, n1, n2, by rw [upd_ne n2]; exact hr⟩
/-- bounds of drawn rows -/
def RwsB (W : Nat) (rws : List (List Int)) : Prop := ∀ (j : Nat) r, rws[j]? = some r → r.length = W ∧ ∀ x, x ∈ r → x.natAbs ≤ 2 * 3 ^ j
def RowMid (H : Hp) (src fo : Addr) (n i way W M : Nat) (rws : List (List Int)) : L2.St → Hp → Prop := fun σ' H' => ∃ (rw : Addr) (r : List Int) (y7 y8 y9 : Option V), σ' = [some (.ref src), some (.int (W : Int)), some (.int (M : Int)), some (.ref fo), some (.int (i : Int)), some (.int (way : Int)), some (.ref rw), y7, y8, y9] ∧ But src H H' ∧ SrcAt H' src (n + 10 * i + 10) ∧ FndAt H' src fo rws ∧ rw ≠ src ∧ rw ≠ fo ∧
        H' rw = some (.lst (r.map V.int)) ∧ r.length = W ∧ ∀ x, x ∈ r → x.natAbs ≤ 2 * 3 ^ i
abbrev dRows (rws : List (List Int)) : PyData := .list (rws.map fun r => .list (r.map PyData.int))
theorem lay_rows : ∀ rws : List (List Int), PyData.canLayAll0 (rws.map fun r => PyData.list (r.map PyData.int)) = true ∧ PyData.depthAll (rws.map fun r => PyData.list (r.map PyData.int)) ≤ 3
  | [] => by simp [PyData.canLayAll0, PyData.depthAll]
  | r :: rws => by
    have h := lay_rows rws
    have h1 := PySem.W.depthAll_ints r
    have h2 := PySem.W.canLayAll0_ints r
    simp only [List.map_cons, PyData.canLayAll0, PyData.canLay0, PyData.depthAll, PyData.depth, h2, h.1, Bool.and_self, true_and]
    omega
theorem shaped_rows (rws : List (List Int)) : SeqAt.shaped (dRows rws) = true := by
  have h := lay_rows rws
  have h2 : PyData.depth (dRows rws) ≤ 64 := by simp only [PyData.depth]; omega
  show (PyData.canLay0 (dRows rws) && decide (PyData.depth (dRows rws) ≤ 64)) = true
  rw [Bool.and_eq_true]
  exact ⟨by simp only [PyData.canLay0]; exact h.1, decide_eq_true h2⟩
theorem dp_ints {K : PySem.W.Frag} {H : Hp} : ∀ r : List Int, DpAll K H (r.map V.int) (r.map PyData.int)
  | [] => .nil
  | x :: r => .cons (.int x) (dp_ints r)
theorem dp_rows {K : PySem.W.Frag} {H : Hp} {fo : Addr} {rws : List (List Int)} (h : RwsAt H fo rws) : Dp K H (.ref fo) (dRows rws) := by
  obtain ⟨ras, h1, h2, h3⟩ := h
  refine .lst (SqL.of h1) ?_
  have gen : ∀ (ras : List Addr) (rws : List (List Int)), ras.length = rws.length → (∀ (i : Nat) r, rws[i]? = some r → ∃ ra, ras[i]? = some ra ∧ H ra = some (.lst (r.map V.int))) → DpAll K H (ras.map V.ref) (rws.map fun r => PyData.list (r.map PyData.int)) := fun ras => by
    induction ras with
    | nil =>
      intro rws hl _
      cases rws with
      | nil => exact .nil
      | cons r rws => simp at hl
    | cons a ras ih =>
      intro rws hl h
      cases rws with
      | nil => simp at hl
      | cons r rws =>
        obtain ⟨ra, e1, e2⟩ := h 0 r rfl
        obtain rfl : a = ra := Option.some.inj e1
        exact .cons (.lst (SqL.of e2) (dp_ints r)) (ih rws (by simpa using hl) fun i r hr => h (i + 1) r hr)
  exact gen ras rws h2 h3
theorem eqv_rows (rws : List (List Int)) : PyData.eqv (dRows rws) (.list []) = decide (rws = []) := by
  cases rws with
  | nil => rfl
  | cons r rws => simp [PyData.eqv, PyData.eqvAll]
section
variable (P : Program) (w : World) {K : PySem.W.Frag} {mg : Str → Option Value} (base : Heap) {a : At}
def sp_pick : Sp := fun vs H Q _ => ∃ (src lp : Addr) (n : Nat) (xs : List V), vs = [.ref src, .ref lp] ∧ SrcAt H src n ∧ n ≤ 100000 ∧ H lp = some (.lst xs) ∧ lp ≠ src ∧ 0 < xs.length ∧ xs.length ≤ 1000 ∧
  ∀ H' (d : Nat) v, But src H H' → SrcAt H' src (n + 1) → xs[d]? = some v → Q v H'
theorem ok__law_pick (T : Tx K mg a) : Fn P w K mg base 2 a._law_pick sp_pick := by
  refine fn_d T.F__law_pick sc__law_pick (fun _ _ _ _ _ _ us hl => match us, hl with | [_, _], _ => rfl) (fun vs H Q E h => ?_) fun cdv A outer s H vs Q E hr h => ?_
  · obtain ⟨src, lp, n, xs, rfl, _⟩ := h
    rfl
  · obtain ⟨src, lp, n, xs, rfl, hS, hn, hlp, ne, h0, h1, q⟩ := h
    refine ⟨_, pss_one (ps_ret (pe_ix ix_list (pv 1) (pe_call (ok__law_draw P w base T).ok (hr.mono (by decide)) (by rfl) T.g__law_draw (ok__law_draw P w base T).kp (ok__law_draw P w base T).b .nil pass0 (pa_cons (pv 0) (pa_cons (pe_callB call_len_seq (by rfl) T.b_len PySem.boot_len (pa_cons (pv 1) pa_nil)) pa_nil))) (fun _ _ => rfl))), ?_⟩
    refine ⟨_, rfl, _, rfl, _, rfl, lp, _, rfl, .inl (SqL.of hlp), src, n, xs.length, rfl, hS, hn, h0, h1, fun H' d b s hd => ?_⟩
    exact ⟨lp, xs, _, xs[d], rfl, rfl, SqL.of (b _ _ hlp ne), at_nat (List.getElem?_eq_getElem hd), q _ d _ b s (List.getElem?_eq_getElem hd)⟩
def sp_field0 : Sp := fun vs H Q _ => ∃ (src : Addr) (n : Nat), vs = [.ref src] ∧ SrcAt H src n ∧ n ≤ 100000 ∧ ∀ H' f, But src H H' → SrcAt H' src (n + 1) → f ∈ fields → Q (.int f) H'
theorem ok__law_field (T : Tx K mg a) : Fn P w K mg base 2 a._law_field sp_field0 := by
  refine fn_d T.F__law_field sc__law_field (fun _ _ _ _ _ _ us hl => match us, hl with | [_], _ => rfl) (fun vs H Q E h => ?_) fun cdv A outer s H vs Q E hr h => ?_
  · obtain ⟨src, n, rfl, _⟩ := h
    rfl
  · obtain ⟨src, n, rfl, hS, hn, q⟩ := h
    refine ⟨_, pss_one (ps_ret (pe_ix ix_list (pe_lst (pa_cons pe_int (pa_cons pe_int (pa_cons pe_int (pa_cons pe_int (pa_cons pe_int (pa_cons pe_int (pa_cons pe_int (pa_cons pe_int (pa_cons pe_int (pa_cons pe_int pa_nil))))))))))) (pe_call (ok__law_draw P w base T).ok (hr.mono (by decide)) (by rfl) T.g__law_draw (ok__law_draw P w base T).kp (ok__law_draw P w base T).b .nil pass0 (pa_cons (pv 0) (pa_cons pe_int pa_nil))) (fun _ _ => rfl))), ?_⟩
    refine ⟨(by show 10 ≤ sizeLine; decide), fun l hl => ?_⟩
    have s1 := same_upd (o := .lst [.int 0, .int 0, .int 0, .int 2, .int 2, .int 3, .int 5, .int 7, .int 11, .int 13]) hl
    have ne : l ≠ src := fun e => by obtain ⟨_, _, _, h, _⟩ := hS; rw [e, h] at hl; cases hl
    refine ⟨_, rfl, src, n, 10, rfl, hS.same s1, hn, by decide, by decide, fun H' d b s hd => ?_⟩
    have hx : ∃ f, ([0, 0, 0, 2, 2, 3, 5, 7, 11, 13] : List Int)[d]? = some f ∧ f ∈ fields := by
      match d, hd with
      | 0, _ => exact ⟨0, rfl, by decide⟩
      | 1, _ => exact ⟨0, rfl, by decide⟩
      | 2, _ => exact ⟨0, rfl, by decide⟩
      | 3, _ => exact ⟨2, rfl, by decide⟩
      | 4, _ => exact ⟨2, rfl, by decide⟩
      | 5, _ => exact ⟨3, rfl, by decide⟩
      | 6, _ => exact ⟨5, rfl, by decide⟩
      | 7, _ => exact ⟨7, rfl, by decide⟩
      | 8, _ => exact ⟨11, rfl, by decide⟩
      | 9, _ => exact ⟨13, rfl, by decide⟩
    obtain ⟨f, hf, hm⟩ := hx
    exact ⟨l, _, _, .int f, rfl, rfl, SqL.of (b _ _ upd_same ne), at_nat (at_map V.int hf), q _ f ((sbut s1).trans b) s hm⟩
def sp_lrows (K : PySem.W.Frag) : Sp := fun vs H Q _ => ∃ (src : Addr) (n W M : Nat), vs = [.ref src, .int (W : Int), .int (M : Int)] ∧ SrcAt H src n ∧ n + 10 * M ≤ 100000 ∧ W ≤ 3 ∧ M ≤ 6 ∧
  ∀ H' fo rws, But src H H' → SrcAt H' src (n + 10 * M) → H fo = none → FndAt H' src fo rws → rws.length = M → RwsB W rws → Q (.ref fo) H'
theorem ok__law_rows (T : Tx K mg a) : Fn P w K mg base 3 a._law_rows (sp_lrows K) := by
  refine fn_d T.F__law_rows sc__law_rows (fun _ _ _ _ _ _ us hl => match us, hl with | [_, _, _], _ => rfl) (fun vs H Q E h => ?_) fun cdv A outer s H vs Q E hr h => ?_
  · obtain ⟨src, n, W, M, rfl, _⟩ := h
    rfl
  · obtain ⟨src, n, W, M, rfl, hS, hn, hW, hM, q⟩ := h
    refine ⟨_, pss_cons (ps_set (i := 3) sc__law_rows.nd rfl (by first | exact Or.inl rfl | exact Or.inr rfl) (pe_lst pa_nil))
        (pss_cons (ps_for PassesOwn.never rfl (pi_range1 (by rfl) T.b_range (pa_cons (pv 2) pa_nil)) (pg_name (i := 4) sc__law_rows.nd rfl (by first | exact Or.inl rfl | exact Or.inr rfl)) (pss_cons (ps_set (i := 5) sc__law_rows.nd rfl (by first | exact Or.inl rfl | exact Or.inr rfl) (pe_call (ok__law_draw P w base T).ok (hr.mono (by decide)) (by rfl) T.g__law_draw (ok__law_draw P w base T).kp (ok__law_draw P w base T).b .nil pass0 (pa_cons (pv 0) (pa_cons pe_int pa_nil))))
        (pss_cons (ps_setLc (i := 6) (own := [("_law_place", 8)]) rfl sc__law_rows.nd rfl rfl (sw_true rfl rfl rfl (by decide +kernel)) (pi_range1 (by rfl) T.b_range (pa_cons (pv 1) pa_nil)) (blkOk_by (N := ["_law_source_here", "_law_width", "_law_many", "_law_found", "_law_k", "_law_way", "_law_row", "_law_times", "_law_place", "_law_number"]) (sc := defScope s__law_rows) (by decide +kernel)) (fun _ _ _ _ _ => (pg_name (i := 8) sc__law_rows.nd rfl (by first | exact Or.inl rfl | exact Or.inr rfl))) (fun _ _ _ _ _ => pts_nil) (fun _ _ _ _ _ => (pe_op op_sub (pe_call (ok__law_draw P w base T).ok (hr.mono (by decide)) (by rfl) T.g__law_draw (ok__law_draw P w base T).kp (ok__law_draw P w base T).b .nil pass0 (pa_cons (pv 0) (pa_cons pe_int pa_nil))) pe_int)))
        (Evl.pss_cut (ps_if (PW.pt (pw_and (pt_cmpR op_eq (pv 5) pe_int (nomark _)) (pw_and1 (pt_cmpR (op_neD hr.units) (pv 3) (pe_lst pa_nil) (nomark _))))) (pss_one (ps_set (i := 6) sc__law_rows.nd rfl (by first | exact Or.inl rfl | exact Or.inr rfl) (pe_callTy call_list_of (by rfl) T.b_list (by decide +kernel) (pa_cons (pe_call (ok__law_pick P w base T).ok (hr.mono (by decide)) (by rfl) T.g__law_pick (ok__law_pick P w base T).kp (ok__law_pick P w base T).b .nil pass0 (pa_cons (pv 0) (pa_cons (pv 3) pa_nil))) pa_nil)))) (pss_one (ps_if (PW.pt (pw_and (pt_cmpR op_eq (pv 5) pe_int (nomark _)) (pw_and1 (pt_cmpR (op_neD hr.units) (pv 3) (pe_lst pa_nil) (nomark _))))) (pss_cons (ps_set (i := 7) sc__law_rows.nd rfl (by first | exact Or.inl rfl | exact Or.inr rfl) (pe_op op_add pe_int (pe_call (ok__law_draw P w base T).ok (hr.mono (by decide)) (by rfl) T.g__law_draw (ok__law_draw P w base T).kp (ok__law_draw P w base T).b .nil pass0 (pa_cons (pv 0) (pa_cons pe_int pa_nil)))))
        (pss_one (ps_setLc (i := 6) (own := [("_law_number", 9)]) rfl sc__law_rows.nd rfl rfl (sw_true rfl rfl rfl (by decide +kernel)) (pi_list (pe_call (ok__law_pick P w base T).ok (hr.mono (by decide)) (by rfl) T.g__law_pick (ok__law_pick P w base T).kp (ok__law_pick P w base T).b .nil pass0 (pa_cons (pv 0) (pa_cons (pv 3) pa_nil)))) (blkOk_by (N := ["_law_source_here", "_law_width", "_law_many", "_law_found", "_law_k", "_law_way", "_law_row", "_law_times", "_law_place", "_law_number"]) (sc := defScope s__law_rows) (by decide +kernel)) (fun _ _ _ _ _ => (pg_name (i := 9) sc__law_rows.nd rfl (by first | exact Or.inl rfl | exact Or.inr rfl))) (fun _ _ _ _ _ => pts_nil) (fun _ _ _ _ _ => (pe_op op_mulW (pv 7) (pv 9)))))) (pss_one (ps_if (pt_cmpR op_eq (pv 5) pe_int (nomark _)) (pss_one (ps_setLc (i := 6) (own := [("_law_place", 8)]) rfl sc__law_rows.nd rfl rfl (sw_true rfl rfl rfl (by decide +kernel)) (pi_range1 (by rfl) T.b_range (pa_cons (pv 1) pa_nil)) (blkOk_by (N := ["_law_source_here", "_law_width", "_law_many", "_law_found", "_law_k", "_law_way", "_law_row", "_law_times", "_law_place", "_law_number"]) (sc := defScope s__law_rows) (by decide +kernel)) (fun _ _ _ _ _ => (pg_name (i := 8) sc__law_rows.nd rfl (by first | exact Or.inl rfl | exact Or.inr rfl))) (fun _ _ _ _ _ => pts_nil) (fun _ _ _ _ _ => (pe_ix (ix_listK (K := K)) (pe_lst (pa_cons pe_int (pa_cons pe_int (pa_cons pe_int pa_nil)))) (pe_call (ok__law_draw P w base T).ok (hr.mono (by decide)) (by rfl) T.g__law_draw (ok__law_draw P w base T).kp (ok__law_draw P w base T).b .nil pass0 (pa_cons (pv 0) (pa_cons pe_int pa_nil))) (fun _ _ => rfl))))) pss_nil)))))
        (pss_one (ps_expr (pe_bm PySem.F.plainAttrs_list PySem.F.slot_list_append PySem.F.type_list_append mt_append (pv 3) (pa_cons (pv 6) pa_nil))))))))
        (pss_one (ps_ret (pv 3)))), ?_⟩
    refine ⟨Nat.zero_le _, fun fo hfo => ?_⟩
    have s1 := same_upd (o := .lst []) hfo
    have nfs : fo ≠ src := fun e => by obtain ⟨_, _, _, h, _⟩ := hS; rw [e, h] at hfo; cases hfo
    refine ⟨_, rfl, (M : Int), rfl, by omega, by omega, ?_⟩
    refine for_it (walk_range (lo := 0) (n := M)) (fun i σ H' => ∃ (rws : List (List Int)) (y4 y5 y6 y7 y8 y9 : Option V), σ = [some (.ref src), some (.int (W : Int)), some (.int (M : Int)), some (.ref fo), y4, y5, y6, y7, y8, y9] ∧ But src H H' ∧ SrcAt H' src (n + 10 * i) ∧ FndAt H' src fo rws ∧ rws.length = i ∧ RwsB W rws)
      ?_ (fun i σ H' _ _ => trivial) (fun i z σ H2 H3 hi hQ hy => ?_) fun σ H2 hQ => ?_
    · exact ⟨[], none, none, none, none, none, none, rfl, sbut s1, hS.same s1, ⟨nfs, [], upd_same, rfl, fun i r h => by simp at h⟩, rfl, fun j r h => by simp at h⟩
    · obtain ⟨rws, y4, y5, y6, y7, y8, y9, rfl, b2, hS2, hF, hl, hB⟩ := hQ
      obtain ⟨rfl, hz⟩ := hy
      obtain rfl : z = .int (i : Int) := by rw [hz]; show V.int (0 + (i : Int)) = _; rw [Int.zero_add]
      refine ⟨_, rfl, src, n + 10 * i, 8, rfl, hS2, by omega, by decide, by decide, fun H4 way b4 hS4 hway => ?_⟩
      have hF4 := hF.but b4
      -- the row drawn
      refine ⟨_, rfl, (W : Int), rfl, by omega, by omega, fun D hD => ?_⟩
      have nDs : D ≠ src := fun e => by obtain ⟨_, _, _, h, _⟩ := hS4; rw [e, h] at hD; cases hD
      have nDf : D ≠ fo := fun e => by obtain ⟨_, _, h, _⟩ := hF4; rw [e, h] at hD; cases hD
      refine lc_it (walk_range (lo := 0) (n := W)) (fun j H' => But src H4 H' ∧ SrcAt H' src (n + 10 * i + 1 + j) ∧ ∃ r : List Int, r.length = j ∧ H' D = some (.lst (r.map V.int)) ∧ ∀ x, x ∈ r → x.natAbs ≤ 2) ⟨(sbut (same_upd hD)), hS4.same (same_upd hD), [], rfl, upd_same, fun x h => by simp at h⟩ (fun _ _ _ _ => trivial) (fun j z H5 H6 hj hQ hy => ?_) fun H5 hQ => ?_
      · obtain ⟨b5, hS5, r, hr5, hD5, hb5⟩ := hQ
        obtain ⟨rfl, hz⟩ := hy
        refine ⟨rfl, _, rfl, src, _, 5, rfl, hS5, by omega, by decide, by decide, fun H7 d b7 hS7 hd => ?_⟩
        refine ⟨_, _, rfl, rfl, r.map V.int, b7 _ _ hD5 nDs, by rw [List.length_map]; exact Nat.lt_of_le_of_lt (show _ ≤ 3 by omega) (by decide), ?_⟩
        refine ⟨fun x o e nx => ?_, ?_, r ++ [(d : Int) - 2], by rw [List.length_append, hr5]; rfl, by rw [upd_same, List.map_append]; rfl, fun x hx => ?_⟩
        · rw [upd_ne (ne_of_none e hD)]
          exact b7 _ _ (b5 _ _ e nx) nx
        · obtain ⟨g, sd, c, e1, e2⟩ := hS7
          exact ⟨g, sd, c, by rw [upd_ne nDs.symm]; exact e1, e2⟩
        · rcases List.mem_append.mp hx with h | h
          · exact hb5 x h
          · rw [List.mem_singleton] at h
            omega
      obtain ⟨b5, hS5, r, hr5, hD5, hb5⟩ := hQ
      have hF5 := hF4.but b5
      have b25 := b2.trans (b4.trans b5)
      have one : 1 ≤ 3 ^ i := Nat.one_le_pow _ _ (by decide)
      have hb5' : ∀ x, x ∈ r → x.natAbs ≤ 2 * 3 ^ i := fun x hx => Nat.le_trans (hb5 x hx) (by omega)
      have keep : ∀ (H' : Hp) (y7 y8 y9 : Option V), But src H5 H' → SrcAt H' src (n + 10 * i + 10) → RowMid H src fo n i way W M rws [some (.ref src), some (.int (W : Int)), some (.int (M : Int)), some (.ref fo), some (.int (i : Int)), some (.int (way : Int)), some (.ref D), y7, y8, y9] H' := fun H' y7 y8 y9 b s => ⟨D, r, y7, y8, y9, rfl, b25.trans b, s, hF5.but b, nDs, nDf, b _ _ hD5 nDs, hr5, hb5'⟩
      have hS5' : SrcAt H5 src (n + 10 * i + 4) := hS5.mono (by omega)
      have bud : n + 10 * i + 10 ≤ 100000 := by omega
      clear hS5
      -- what is found, as data
      have ask : ∀ {H' : Hp} {nl : Addr}, H5 nl = none → H' = upd H5 nl (.lst []) → Dp K H' (.ref fo) (dRows rws) ∧ Dp K H' (.ref nl) (.list []) := fun {H' nl} hnl e => by
        subst e
        exact ⟨dp_rows (hF5.rws.same (same_upd hnl)), .lst (SqL.of upd_same) .nil⟩
      have nil_sh : SeqAt.shaped (.list []) = true := rfl
      refine ⟨RowMid H src fo n i way W M rws, ?_, fun σ' H' hm => ?_⟩
      · refine ⟨_, rfl, rfl, _, rfl, ?_⟩
        by_cases w0 : way = 0
        · subst w0
          refine itT (by decide) ?_
          refine ⟨_, rfl, Nat.zero_le _, fun nl hnl => ⟨dRows rws, .list [], (ask hnl rfl).1, (ask hnl rfl).2, shaped_rows rws, nil_sh, _, rfl, ?_⟩⟩
          have s6 := same_upd (o := .lst []) hnl
          rw [eqv_rows]
          by_cases hr0 : rws = []
          · refine itF (by rw [decide_eq_true hr0]; rfl) ?_
            refine ⟨_, rfl, rfl, _, rfl, itF (by decide) (itF rfl ?_)⟩
            refine ⟨_, rfl, rfl, _, rfl, itF (by decide) ?_⟩
            exact keep _ _ _ _ (sbut s6) ((hS5'.same s6).mono (by omega))
          · refine itT (by rw [decide_eq_false hr0]; rfl) ?_
            have hF6 := hF5.but (sbut s6)
            obtain ⟨_, ras, f1, f2, f3⟩ := id hF6
            have lras : (ras.map V.ref).length = rws.length := by rw [List.length_map]; exact f2
            refine ⟨_, rfl, _, rfl, src, fo, n + 10 * i + 4, _, rfl, hS5'.same s6, by omega, f1, nfs, by rw [lras]; exact List.length_pos_iff.mpr hr0, by rw [lras, hl]; omega, fun H7 d v b7 hS7 hv => ?_⟩
            obtain ⟨ra, hra, rfl⟩ := ref_at hv
            have hdl : d < rws.length := by rw [← f2]; exact (List.getElem?_eq_some_iff.mp hra).1
            obtain ⟨ra', e1, e2, e3, e4⟩ := f3 d rws[d] (List.getElem?_eq_getElem hdl)
            rw [hra] at e1
            obtain rfl : ra = ra' := Option.some.inj e1
            have hB1 := hB d rws[d] (List.getElem?_eq_getElem hdl)
            generalize rws[d] = rd at *
            refine ⟨ra, _, rfl, .inl (SqL.of (b7 _ _ e4 e2)), fun l hl9 => ?_⟩
            have s8 := same_upd (o := .lst (rd.map V.int)) hl9
            refine ⟨l, rd, _, _, _, rfl, b25.trans ((sbut s6).trans (b7.trans (sbut s8))), (hS7.same s8).mono (by omega), hF6.but (b7.trans (sbut s8)), fun e => ?_, fun e => ?_, upd_same, hB1.1, fun x hx => ?_⟩
            · obtain ⟨_, _, _, h, _⟩ := hS7
              rw [e, h] at hl9
              cases hl9
            · rw [e, b7 _ _ f1 nfs] at hl9
              cases hl9
            · exact Nat.le_trans (hB1.2 x hx) (Nat.mul_le_mul_left _ (Nat.pow_le_pow_right (by decide) (by omega)))
        · refine itF (by rw [dec_int]; exact beq_false_of_ne (by omega)) (itF rfl ?_)
          refine ⟨_, rfl, rfl, _, rfl, ?_⟩
          by_cases w1 : way = 1
          · subst w1
            refine itT (by decide) ?_
            refine ⟨_, rfl, Nat.zero_le _, fun nl hnl => ⟨dRows rws, .list [], (ask hnl rfl).1, (ask hnl rfl).2, shaped_rows rws, nil_sh, _, rfl, ?_⟩⟩
            have s6 := same_upd (o := .lst []) hnl
            rw [eqv_rows]
            by_cases hr0 : rws = []
            · refine itF (by rw [decide_eq_true hr0]; rfl) ?_
              refine ⟨_, rfl, rfl, _, rfl, itF (by decide) ?_⟩
              exact keep _ _ _ _ (sbut s6) ((hS5'.same s6).mono (by omega))
            · refine itT (by rw [decide_eq_false hr0]; rfl) ?_
              have hF6 := hF5.but (sbut s6)
              obtain ⟨_, ras, f1, f2, f3⟩ := id hF6
              have lras : (ras.map V.ref).length = rws.length := by rw [List.length_map]; exact f2
              refine ⟨_, rfl, src, n + 10 * i + 4, 3, rfl, hS5'.same s6, by omega, by decide, by decide, fun H7 tm b7 hS7 htm => ⟨_, _, rfl, rfl, ?_⟩⟩
              refine ⟨_, rfl, _, rfl, src, fo, n + 10 * i + 5, _, rfl, hS7, by omega, b7 _ _ f1 nfs, nfs, by rw [lras]; exact List.length_pos_iff.mpr hr0, by rw [lras, hl]; omega, fun H8 d v b8 hS8 hv => ?_⟩
              obtain ⟨ra, hra, rfl⟩ := ref_at hv
              have hdl : d < rws.length := by rw [← f2]; exact (List.getElem?_eq_some_iff.mp hra).1
              obtain ⟨ra', e1, e2, e3, e4⟩ := f3 d rws[d] (List.getElem?_eq_getElem hdl)
              rw [hra] at e1
              obtain rfl : ra = ra' := Option.some.inj e1
              have hB1 := hB d rws[d] (List.getElem?_eq_getElem hdl)
              generalize rws[d] = rd at *
              have e8 := b8 _ _ (b7 _ _ e4 e2) e2
              have lrd : (rd.map V.int).length = rd.length := List.length_map _
              refine ⟨ra, rfl, ⟨_, SqL.of e8⟩, fun D2 hD2 => ?_⟩
              have p5 : 3 ^ d ≤ 3 ^ 5 := Nat.pow_le_pow_right (by decide) (by omega)
              have p1 : 3 ^ (d + 1) ≤ 3 ^ i := Nat.pow_le_pow_right (by decide) (by omega)
              rw [Nat.pow_succ] at p1
              refine lc_w (walk_list (xs := rd.map V.int)) (fun j => rd[j]?.bind fun x => some (.int ((1 + (tm : Int)) * x))) hD2 (by rw [lrd, hB1.1]; omega) (fun H9 s9 => SqL.of (s9 _ _ e8)) (fun j z H9 H10 hj s9 hy take skip => ?_) fun H9 s9 hD9 => ?_
              · obtain ⟨rfl, hz⟩ := hy
                obtain ⟨x, hx, rfl⟩ := int_at hz
                have hxb := hB1.2 x (List.mem_of_getElem? hx)
                refine ⟨rfl, _, rfl, _, rfl, 1 + (tm : Int), x, rfl, rfl, wide_mul (a := 3) (b := 9) (by omega) (Nat.lt_of_le_of_lt hxb (Nat.lt_of_le_of_lt (Nat.mul_le_mul_left 2 p5) (by decide))) (by decide) (by decide) (by decide), take _ _ ?_ (Same.refl _)⟩
                rw [hx]
                rfl
              · rw [lrd, range_fm rd fun x => some (V.int ((1 + (tm : Int)) * x)), fm_some] at hD9
                have hS8' := hS8.same s9
                refine ⟨D2, rd.map fun x => (1 + (tm : Int)) * x, _, _, _, rfl, b25.trans ((sbut s6).trans (b7.trans (b8.trans (sbut s9)))), hS8'.mono (by omega), hF6.but (b7.trans (b8.trans (sbut s9))), fun e => ?_, fun e => ?_, by rw [hD9, List.map_map]; rfl, by rw [List.length_map]; exact hB1.1, fun x hx => ?_⟩
                · obtain ⟨_, _, _, h, _⟩ := hS8
                  rw [e, h] at hD2
                  cases hD2
                · rw [e, b8 _ _ (b7 _ _ f1 nfs) nfs] at hD2
                  cases hD2
                · obtain ⟨y, hy, rfl⟩ := List.mem_map.mp hx
                  have hyb := hB1.2 y hy
                  rw [Int.natAbs_mul]
                  have e3 : (1 + (tm : Int)).natAbs ≤ 3 := by omega
                  have := Nat.mul_le_mul e3 hyb
                  omega
          · refine itF (by rw [dec_int]; exact beq_false_of_ne (by omega)) (itF rfl ?_)
            refine ⟨_, rfl, rfl, _, rfl, ?_⟩
            by_cases w2 : way = 2
            · subst w2
              refine itT (by decide) ?_
              refine ⟨_, rfl, (W : Int), rfl, by omega, by omega, fun D2 hD2 => ?_⟩
              have nDs2 : D2 ≠ src := fun e => by obtain ⟨_, _, _, h, _⟩ := hS5'; rw [e, h] at hD2; cases hD2
              have nDf2 : D2 ≠ fo := fun e => by obtain ⟨_, _, h, _⟩ := hF5; rw [e, h] at hD2; cases hD2
              refine lc_it (walk_range (lo := 0) (n := W)) (fun j H' => But src H5 H' ∧ SrcAt H' src (n + 10 * i + 4 + j) ∧ ∃ r : List Int, r.length = j ∧ H' D2 = some (.lst (r.map V.int)) ∧ ∀ x, x ∈ r → x.natAbs ≤ 1) ⟨sbut (same_upd hD2), hS5'.same (same_upd hD2), [], rfl, upd_same, fun x h => by simp at h⟩ (fun _ _ _ _ => trivial) (fun j z H6 H7 hj hQ hy => ?_) fun H6 hQ => ?_
              · obtain ⟨b6, hS6, r2, hr6, hD6, hb6⟩ := hQ
                obtain ⟨rfl, hz⟩ := hy
                refine ⟨rfl, (by show 3 ≤ sizeLine; decide), fun l9 hl9 => ?_⟩
                have s7 := same_upd (o := .lst [.int 0, .int 0, .int 1]) hl9
                have nl9 : l9 ≠ src := fun e => by obtain ⟨_, _, _, h, _⟩ := hS6; rw [e, h] at hl9; cases hl9
                refine ⟨_, rfl, src, _, 3, rfl, hS6.same s7, by omega, by decide, by decide, fun H8 d b8 hS8 hd => ?_⟩
                obtain ⟨v, hv, hvb⟩ : ∃ v : Int, ([0, 0, 1] : List Int)[d]? = some v ∧ v.natAbs ≤ 1 := by
                  match d, hd with
                  | 0, _ => exact ⟨0, rfl, by decide⟩
                  | 1, _ => exact ⟨0, rfl, by decide⟩
                  | 2, _ => exact ⟨1, rfl, by decide⟩
                refine ⟨l9, _, _, .int v, rfl, rfl, SqL.of (b8 _ _ upd_same nl9), at_nat (at_map V.int hv), r2.map V.int, b8 _ _ (s7 _ _ hD6) nDs2, by rw [List.length_map]; exact Nat.lt_of_le_of_lt (show _ ≤ 3 by omega) (by decide), ?_⟩
                refine ⟨fun x o e nx => ?_, ?_, r2 ++ [v], by rw [List.length_append, hr6]; rfl, by rw [upd_same, List.map_append]; rfl, fun x hx => ?_⟩
                · rw [upd_ne (ne_of_none e hD2)]
                  exact b8 _ _ (s7 _ _ (b6 _ _ e nx)) nx
                · obtain ⟨g, sd, c, e1, e2⟩ := hS8
                  exact ⟨g, sd, c, by rw [upd_ne nDs2.symm]; exact e1, e2⟩
                · rcases List.mem_append.mp hx with h | h
                  · exact hb6 x h
                  · rw [List.mem_singleton] at h
                    subst h
                    exact hvb
              · obtain ⟨b6, hS6, r2, hr6, hD6, hb6⟩ := hQ
                exact ⟨D2, r2, _, _, _, rfl, b25.trans b6, hS6.mono (by omega), hF5.but b6, nDs2, nDf2, hD6, hr6, fun x hx => Nat.le_trans (hb6 x hx) (by omega)⟩
            · exact itF (by rw [dec_int]; exact beq_false_of_ne (by omega)) (keep _ _ _ _ (sbut (Same.refl _)) (hS5'.mono (by omega)))
      · obtain ⟨rw, r', y7, y8, y9, rfl, b6, hS6, hF6, n1, n2, hr6, hl6, hb6⟩ := hm
        obtain ⟨_, ras, f1, f2, f3⟩ := id hF6
        refine ⟨_, rfl, .inl ⟨rfl, _, SqL.of f1⟩, _, rfl, fo, _, _, rfl, rfl, f1, by rw [List.length_map, f2, hl]; exact Nat.lt_of_le_of_lt (show _ ≤ 6 by omega) (by decide), ?_⟩
        refine ⟨rws ++ [r'], _, _, _, _, _, _, rfl, fun x o e nx => ?_, ?_, hF6.push f1 hr6 n1 n2, by rw [List.length_append, hl]; rfl, fun j z hz => ?_⟩
        · rw [upd_ne (ne_of_none e hfo)]
          exact b6 x o e nx
        · obtain ⟨g, sd, c, e1, e2⟩ := hS6
          exact ⟨g, sd, c, by rw [upd_ne nfs.symm]; exact e1, e2⟩
        · by_cases hj : j < rws.length
          · rw [List.getElem?_append_left hj] at hz
            exact hB j z hz
          · rw [List.getElem?_append_right (by omega)] at hz
            have hj' : j = rws.length := by
              have : j - rws.length < 1 := (List.getElem?_eq_some_iff.mp hz).1
              omega
            subst hj'
            rw [Nat.sub_self] at hz
            have : r' = z := Option.some.inj hz
            subst this
            exact ⟨hl6, by rw [hl]; exact hb6⟩
    · obtain ⟨rws, y4, y5, y6, y7, y8, y9, rfl, b2, hS2, hF, hl, hB⟩ := hQ
      exact ⟨_, rfl, q _ fo rws b2 hS2 hfo hF hl hB⟩
end
end FL
/-! The law's made, divisor, lean, less, game. -/
set_option Elab.async false
set_option linter.all false
set_option maxRecDepth 1000000
set_option maxHeartbeats 8000000
namespace FL
open PySem PySem.Spec PyProof.Rows L2
section
variable (P : Program) (w : World) {K : PySem.W.Frag} {mg : Str → Option Value} (base : Heap) {a : At}
def sp_made (K : PySem.W.Frag) (a : At) : Sp := fun vs H Q _ => ∃ (pp rp : Addr) (rws : List (List Int)) (W : Nat) (f : Int), vs = [.ref pp] ∧ H pp = some (.lst [.ref rp, .int f]) ∧ RwsAt H rp rws ∧ 0 < rws.length ∧ rws.length ≤ 6 ∧ W ≤ 12 ∧ (∀ r, r ∈ rws → r.length = W) ∧ f ∈ fields ∧
  ∀ H' t, Same H H' → H t = none → TabAt K a.Rows H' t (redT f W rws) → Q (.ref t) H'
theorem ok__law_made (T : Tx K mg a) : Fn P w K mg base 6 a._law_made (sp_made K a) := by
  refine fn_d T.F__law_made sc__law_made (fun _ _ _ _ _ _ us hl => match us, hl with | [_], _ => rfl) (fun vs H Q E h => ?_) fun cdv A outer s H vs Q E hr h => ?_
  · obtain ⟨pp, rp, rws, W, f, rfl, _⟩ := h
    rfl
  · obtain ⟨pp, rp, rws, W, f, rfl, hpp, hR, h0, h6, h12, hw, hf, q⟩ := h
    refine ⟨_, pss_one (ps_ret (pe_make T.k_Rows (ok_Rows_init P w base T).ok (hr.mono (by decide)) (by rfl) T.gC_Rows (ok_Rows_init P w base T).b .nil pass0 (pa_cons (pe_ix ix_list (pv 0) pe_int (fun _ _ => rfl)) (pa_cons (pe_ix ix_list (pv 0) pe_int (fun _ _ => rfl)) pa_nil)))), ?_⟩
    have e0 : atI [V.ref rp, V.int f] (0 : Int) = some (.ref rp) := at_nat (j := 0) rfl
    have e1 : atI [V.ref rp, V.int f] (1 : Int) = some (.int f) := at_nat (j := 1) rfl
    refine ⟨_, rfl, pp, _, _, _, rfl, rfl, SqL.of hpp, e0, _, rfl, pp, _, _, _, rfl, rfl, SqL.of hpp, e1, fun t dx hn hdn hne => ?_⟩
    have n0 : Same H (upd (upd H dx (.own t)) t (.ins a.Rows dx [])) := (same_upd hdn).trans (same_upd (by rw [upd_ne hne.symm]; exact hn))
    exact ⟨t, dx, rp, rws, W, f, rfl, upd_same, hR.same n0, h0, h6, h12, hw, hf, fun H1 old hT => ⟨rfl, q _ t (fun x o e => old _ _ (n0 _ _ e) (ne_of_none e hn)) hn hT⟩⟩
def sp_div : Sp := fun vs H Q _ => ∃ i j : Nat, vs = [.int (i : Int), .int (j : Int)] ∧ Q (.int (Nat.gcd i j : Nat)) H
theorem ok__law_divisor (T : Tx K mg a) : Fn P w K mg base 1 a._law_divisor sp_div := by
  refine fn_d T.F__law_divisor sc__law_divisor (fun _ _ _ _ _ _ us hl => match us, hl with | [_, _], _ => rfl) (fun vs H Q E h => ?_) fun cdv A outer s H vs Q E hr h => ?_
  · obtain ⟨i, j, rfl, _⟩ := h
    rfl
  · obtain ⟨i, j, rfl, q⟩ := h
    refine ⟨_, pss_cons (ps_while PassesOwn.never (pt_cmpR op_ne (pv 1) pe_int (nomark _)) (pss_one (ps_par (i := 0) (j := 1) rfl sc__law_divisor.nd rfl rfl (by decide) rfl rfl (pa_cons (pv 1) (pa_cons (pe_op op_mod (pe_callTy call_int1 (by rfl) T.b_int (by decide +kernel) (pa_cons (pv 0) pa_nil)) (pv 1)) pa_nil)) (by rfl))))
        (pss_one (ps_ret (pv 0))), ?_⟩
    refine ⟨fun m σ H' => H' = H ∧ ∃ x y : Nat, m = y ∧ σ = [some (.int (x : Int)), some (.int (y : Int))] ∧ Nat.gcd x y = Nat.gcd i j, ⟨j, rfl, i, j, rfl, rfl, rfl⟩, ?_⟩
    rintro m σ H' ⟨rfl, x, y, rfl, rfl, hg⟩
    refine ⟨.int (m : Int), rfl, rfl, _, rfl, ?_⟩
    by_cases hy : m = 0
    · subst hy
      refine itF (by simp) ⟨.int (x : Int), rfl, ?_⟩
      have e : x = Nat.gcd i j := by rw [← hg, Nat.gcd_zero_right]
      show Q (.int (x : Int)) H'
      rw [e]
      exact q
    · have hne : ¬ (V.int (m : Int) = V.int 0) := fun e => hy (by have := V.int.inj e; omega)
      refine itT (by simp [hne]) ⟨fun σ' H2 => H2 = H' ∧ σ' = [some (.int (m : Int)), some (.int ((x % m : Nat) : Int))], fun σ' H2 h => ?_, ?_⟩
      · obtain ⟨rfl, rfl⟩ := h
        exact ⟨x % m, Nat.mod_lt _ (by omega), rfl, m, x % m, rfl, rfl, by rw [← hg, Nat.gcd_comm x m, Nat.gcd_rec m x, Nat.gcd_comm]⟩
      · exact ⟨.int (m : Int), rfl, .int (x : Int), rfl, .inl ⟨_, rfl, .int (m : Int), rfl, (x : Int), (m : Int), rfl, rfl, (show (0 : Int) < (m : Int) by omega), _, _, rfl, rfl, by rw [Int.natCast_emod]; rfl⟩⟩
def sp_lean (K : PySem.W.Frag) : Sp := fun vs H Q _ => ∃ (p : Addr) (ns : List Int) (f : Int), vs = [.ref p, .int f] ∧ H p = some (.lst (ns.map V.int)) ∧ 0 ≤ f ∧ ns.length ≤ 1000 ∧ (∀ x, x ∈ ns → x.natAbs < 2 ^ 9000) ∧
  ∀ H' q, Same H H' → H' q = some (.lst ((leanL ns f).map V.int)) → Q (.ref q) H'
theorem ok__law_lean (T : Tx K mg a) : Fn P w K mg base 2 a._law_lean (sp_lean K) := by
  refine fn_d T.F__law_lean sc__law_lean (fun _ _ _ _ _ _ us hl => match us, hl with | [_, _], _ => rfl) (fun vs H Q E h => ?_) fun cdv A outer s H vs Q E hr h => ?_
  · obtain ⟨p, ns, f, rfl, _⟩ := h
    rfl
  · obtain ⟨p, ns, f, rfl, hp, hf, hl, hb, q⟩ := h
    refine ⟨_, pss_cons (ps_set (i := 2) sc__law_lean.nd rfl (by first | exact Or.inl rfl | exact Or.inr rfl) pe_int)
        (pss_cons (ps_for PassesOwn.never rfl (pi_list (pv 0)) (pg_name (i := 3) sc__law_lean.nd rfl (by first | exact Or.inl rfl | exact Or.inr rfl)) (pss_one (ps_set (i := 2) sc__law_lean.nd rfl (by first | exact Or.inl rfl | exact Or.inr rfl) (pe_call (ok__law_divisor P w base T).ok (hr.mono (by decide)) (by rfl) T.g__law_divisor (ok__law_divisor P w base T).kp (ok__law_divisor P w base T).b .nil pass0 (pa_cons (pe_callB call_abs (by rfl) T.b_abs (by decide +kernel) (pa_cons (pv 3) pa_nil)) (pa_cons (pv 2) pa_nil))))))
        (pss_cons (ps_if (pt_cmpR op_gt (pv 1) pe_int (nomark _)) (pss_one (ps_ret (pe_lc (own := [("_law_number", 3)]) rfl sc__law_lean.nd (pi_list (pv 0)) (blkOk_by (N := ["_law_row", "_law_field_here", "_law_part", "_law_number"]) (sc := defScope s__law_lean) (by decide +kernel)) (fun _ _ _ _ _ => (pg_name (i := 3) sc__law_lean.nd rfl (by first | exact Or.inl rfl | exact Or.inr rfl))) (fun _ _ _ _ _ => pts_nil) (fun _ _ _ _ _ => (pe_op op_mod (pe_callTy call_int1 (by rfl) T.b_int (by decide +kernel) (pa_cons (pv 3) pa_nil)) (pv 1)))))) pss_nil)
        (pss_one (ps_ret (pe_ifExp (pt_cmpR op_gt (pv 2) pe_int (nomark _)) (pe_lc (own := [("_law_number", 3)]) rfl sc__law_lean.nd (pi_list (pv 0)) (blkOk_by (N := ["_law_row", "_law_field_here", "_law_part", "_law_number"]) (sc := defScope s__law_lean) (by decide +kernel)) (fun _ _ _ _ _ => (pg_name (i := 3) sc__law_lean.nd rfl (by first | exact Or.inl rfl | exact Or.inr rfl))) (fun _ _ _ _ _ => pts_nil) (fun _ _ _ _ _ => (pe_op op_fdivW (pv 3) (pv 2)))) (pv 0)))))), ?_⟩
    refine ⟨_, rfl, p, rfl, ⟨_, SqL.of hp⟩, for_it (walk_list (xs := ns.map V.int)) (fun i σ H' => H' = H ∧ ∃ y3, σ = [some (.ref p), some (.int f), some (.int (((ns.take i).foldl (fun d x => Nat.gcd d x.natAbs) 0 : Nat) : Int)), y3]) ⟨rfl, none, rfl⟩ (fun i σ H' _ hi => by rw [hi.1]; exact SqL.of hp) (fun i x σ H1 H2 hi hP hy => ?_) fun σ H' hP => ?_⟩
    · obtain ⟨rfl, y3, rfl⟩ := hP
      obtain ⟨rfl, hx⟩ := hy
      obtain ⟨n, hn, rfl⟩ := int_at hx
      refine ⟨_, rfl, n, rfl, _, rfl, n.natAbs, (ns.take i).foldl (fun d x => Nat.gcd d x.natAbs) 0, ?_, rfl, some (.int n), ?_⟩
      · have e : (if n < 0 then -n else n) = (n.natAbs : Int) := by
          by_cases h : n < 0
          · rw [if_pos h]; omega
          · rw [if_neg h]; omega
        show [V.int (if n < 0 then -n else n), _] = _
        rw [e]
      · rw [List.take_add_one, hn, List.foldl_append, Nat.gcd_comm]
        rfl
    · obtain ⟨rfl, y3, rfl⟩ := hP
      have eg : ((ns.take (ns.map V.int).length).foldl (fun d x => Nat.gcd d x.natAbs) 0) = gcdL ns := by
        rw [List.length_map, List.take_length]
        rfl
      rw [eg]
      refine ⟨_, rfl, f, 0, rfl, rfl, _, rfl, ?_⟩
      by_cases hp0 : (0 : Int) < f
      · refine itT (decide_eq_true hp0) ?_
        refine ⟨_, rfl, p, rfl, ⟨_, SqL.of hp⟩, fun D hD => ?_⟩
        refine lc_w walk_list (fun i => ns[i]?.bind fun n => some (.int (n % f))) hD (by rw [List.length_map]; omega) (fun H1 s1 => SqL.of (s1 _ _ hp)) (fun i x H1 H2 hi s1 hy take skip => ?_) fun H1 s1 h1 => ?_
        · obtain ⟨rfl, hx⟩ := hy
          obtain ⟨n, hn, rfl⟩ := int_at hx
          refine ⟨rfl, _, rfl, .inl ⟨n, rfl, _, rfl, n, f, rfl, rfl, hp0, take _ _ ?_ (Same.refl _)⟩⟩
          rw [hn]
          rfl
        · rw [int_fm ns fun n => V.int (n % f)] at h1
          refine q H1 D s1 ?_
          have ef : leanF ns f = fun x => x % f := by funext x; exact if_pos hp0
          rw [h1, leanL, ef, List.map_map]
          rfl
      · refine itF (decide_eq_false hp0) ?_
        have hf0 : f = 0 := by omega
        subst hf0
        refine ⟨_, rfl, _, 1, rfl, rfl, _, rfl, ?_⟩
        by_cases h1 : 1 < gcdL ns
        · have h1' : (1 : Int) < (gcdL ns : Int) := by omega
          refine itT (decide_eq_true h1') ?_
          refine ⟨_, rfl, p, rfl, ⟨_, SqL.of hp⟩, fun D hD => ?_⟩
          refine lc_w walk_list (fun i => ns[i]?.bind fun n => some (.int (n / (gcdL ns : Int)))) hD (by rw [List.length_map]; omega) (fun H1 s1 => SqL.of (s1 _ _ hp)) (fun i x H1 H2 hi s1 hy take skip => ?_) fun H1 s1 h2 => ?_
          · obtain ⟨rfl, hx⟩ := hy
            obtain ⟨n, hn, rfl⟩ := int_at hx
            refine ⟨rfl, _, rfl, _, rfl, n, (gcdL ns : Int), rfl, rfl, wide_div (b := 9000) (by omega) (by rw [Int.natAbs_natCast]; exact gcdL_lt hb h1) (by decide) (Nat.le_refl _), take _ _ ?_ (Same.refl _)⟩
            rw [hn]
            rfl
          · rw [int_fm ns fun n => V.int (n / (gcdL ns : Int))] at h2
            refine q H1 D s1 ?_
            have ef : leanF ns 0 = fun x => x / (gcdL ns : Int) := by funext x; exact (if_neg (by decide)).trans (if_pos h1)
            rw [h2, leanL, ef, List.map_map]
            rfl
        · refine itF (decide_eq_false (by omega)) ?_
          refine ⟨_, rfl, q _ p (Same.refl _) ?_⟩
          have ef : leanF ns 0 = fun x => x := by funext x; exact (if_neg (by decide)).trans (if_neg h1)
          rw [hp, leanL, ef, List.map_id']
def sp_less (K : PySem.W.Frag) : Sp := fun vs H Q _ => ∃ (kp rp : Addr) (kn rw : List Int) (l : Nat) (f x y : Int) (b c : Nat), vs = [.ref kp, .ref rp, .int (l : Int), .int f] ∧ H kp = some (.lst (kn.map V.int)) ∧ H rp = some (.lst (rw.map V.int)) ∧ kn.length = rw.length ∧ rw.length ≤ 1000 ∧
  rw[l]? = some x ∧ kn[l]? = some y ∧ 0 ≤ f ∧ 0 < b ∧ 0 < c ∧ (∀ x, x ∈ kn → x.natAbs < 2 ^ b) ∧ (∀ x, x ∈ rw → x.natAbs < 2 ^ c) ∧ b + c ≤ 8000 ∧ ∀ H' q, Same H H' → H' q = some (.lst ((leanL (stepV x y kn rw) f).map V.int)) → Q (.ref q) H'
theorem ok__law_less (T : Tx K mg a) : Fn P w K mg base 3 a._law_less (sp_less K) := by
  refine fn_d T.F__law_less sc__law_less (fun _ _ _ _ _ _ us hl => match us, hl with | [_, _, _, _], _ => rfl) (fun vs H Q E h => ?_) fun cdv A outer s H vs Q E hr h => ?_
  · obtain ⟨kp, rp, kn, rw, l, f, x, y, b, c, rfl, _⟩ := h
    rfl
  · obtain ⟨kp, rp, kn, rw_, l, f, x, y, b, c, rfl, hk, hrw, hl, h1000, hx, hy, hf, b0, c0, hb, hc, hbc, q⟩ := h
    refine ⟨_, pss_one (ps_ret (pe_call (ok__law_lean P w base T).ok (hr.mono (by decide)) (by rfl) T.g__law_lean (ok__law_lean P w base T).kp (ok__law_lean P w base T).b .nil pass0 (pa_cons (pe_lc (own := [("_law_x", 4), ("_law_y", 5)]) rfl sc__law_less.nd (pi_zip (by rfl) T.b_zip (pa_cons (pv 0) (pa_cons (pv 1) pa_nil))) (blkOk_by (N := ["_law_known", "_law_row", "_law_place", "_law_field_here", "_law_x", "_law_y"]) (sc := defScope s__law_less) (by decide +kernel)) (fun _ _ _ _ _ => (pg_two (K := K) 4 5 sc__law_less.nd)) (fun _ _ _ _ _ => pts_nil) (fun _ _ _ _ _ => (pe_op op_sub (pe_op op_mulW (pe_ix (ix_listK (K := K)) (pv 1) (pv 2) (fun _ _ => rfl)) (pv 4)) (pe_op op_mulW (pe_ix (ix_listK (K := K)) (pv 0) (pv 2) (fun _ _ => rfl)) (pv 5))))) (pa_cons (pv 3) pa_nil)))), ?_⟩
    refine ⟨_, rfl, _, rfl, kp, rp, _, _, rfl, SqL.of hk, SqL.of hrw, fun D hD => ?_⟩
    have xb := hc x (List.mem_of_getElem? hx)
    have yb := hb y (List.mem_of_getElem? hy)
    have lsv : (stepV x y kn rw_).length = kn.length := by
      unfold stepV
      rw [List.length_zipWith, ← hl, Nat.min_self]
    refine lc_w (walk_zip (n := kn.length) (by rw [List.length_map, List.length_map, ← hl, Nat.min_self])) (fun j => (stepV x y kn rw_)[j]?.bind fun z => some (.int z)) hD (by omega) (fun H4 s4 => ⟨SqL.of (s4 _ _ hk), SqL.of (s4 _ _ hrw)⟩) (fun j z H4 H5 hj s4 hy4 take skip => ?_) fun H4 s4 hD4 => ?_
    · obtain ⟨T4, x4, z4, rfl, hT4, rfl, hx4, hz4⟩ := hy4
      obtain ⟨x5, hx5, rfl⟩ := int_at hx4
      obtain ⟨z5, hz5, rfl⟩ := int_at hz4
      have s5 := s4.trans (same_upd (o := .tup [.int x5, .int z5]) hT4)
      refine ⟨T4, _, rfl, SqT.of upd_same, rfl, _, _, rfl, _, _, rfl, rfl, rfl, ?_⟩
      refine ⟨_, rfl, _, rfl, rp, _, _, _, rfl, rfl, SqL.of (s5 _ _ hrw), at_nat (at_map V.int hx), _, rfl, x, x5, rfl, rfl, wide_mul xb (hb _ (List.mem_of_getElem? hx5)) c0 b0 (by omega), ?_⟩
      refine ⟨_, rfl, _, rfl, kp, _, _, _, rfl, rfl, SqL.of (s5 _ _ hk), at_nat (at_map V.int hy), _, rfl, y, z5, rfl, rfl, wide_mul yb (hc _ (List.mem_of_getElem? hz5)) b0 c0 (by omega), _, _, rfl, rfl, take _ _ ?_ (same_upd hT4)⟩
      unfold stepV
      rw [List.getElem?_zipWith, hx5, hz5]
      rfl
    · rw [← lsv, range_fm (stepV x y kn rw_) (fun z => some (V.int z)), fm_some] at hD4
      refine ⟨_, rfl, D, stepV x y kn rw_, f, rfl, hD4, hf, by rw [lsv]; omega, fun z hz => ?_, fun H6 q6 s6 h6 => q _ q6 (s4.trans s6) h6⟩
      obtain ⟨x1, y1, h1, h2, e⟩ := mem_zip hz
      rw [e]
      exact Nat.lt_of_lt_of_le (comb_lt (a := c) (b := b) x1 y1 xb (hb _ h1) yb (hc _ h2)) (Nat.pow_le_pow_right (by decide) (by omega))
def sp_game (K : PySem.W.Frag) : Sp := fun vs H Q _ => ∃ (src : Addr) (n : Nat), vs = [.ref src, .int 6] ∧ SrcAt H src n ∧ n + 100 ≤ 100000 ∧
  ∀ H' r pp fo rws W f, ∀ (g : Nat), But src H H' → SrcAt H' src (n + 100) → H' r = some (.tup [.ref pp, .int (g : Int)]) → H' pp = some (.lst [.ref fo, .int f]) → FndAt H' src fo rws → RwsB W rws → 1 ≤ W → W ≤ 3 → 0 < rws.length → rws.length ≤ 6 → f ∈ fields → g < rws.length → pp ≠ src → Q (.ref r) H'
theorem ok__law_game (T : Tx K mg a) : Fn P w K mg base 4 a._law_game (sp_game K) := by
  refine fn_d T.F__law_game sc__law_game (fun _ _ _ _ _ _ us hl => match us, hl with | [_, _], _ => rfl) (fun vs H Q E h => ?_) fun cdv A outer s H vs Q E hr h => ?_
  · obtain ⟨src, n, rfl, _⟩ := h
    rfl
  · obtain ⟨src, n, rfl, hS, hn, q⟩ := h
    refine ⟨_, pss_cons (ps_set (i := 2) sc__law_game.nd rfl (by first | exact Or.inl rfl | exact Or.inr rfl) (pe_lst (pa_cons (pe_call (ok__law_rows P w base T).ok (hr.mono (by decide)) (by rfl) T.g__law_rows (ok__law_rows P w base T).kp (ok__law_rows P w base T).b .nil pass0 (pa_cons (pv 0) (pa_cons (pe_op op_add pe_int (pe_call (ok__law_draw P w base T).ok (hr.mono (by decide)) (by rfl) T.g__law_draw (ok__law_draw P w base T).kp (ok__law_draw P w base T).b .nil pass0 (pa_cons (pv 0) (pa_cons pe_int pa_nil)))) (pa_cons (pe_op op_add pe_int (pe_call (ok__law_draw P w base T).ok (hr.mono (by decide)) (by rfl) T.g__law_draw (ok__law_draw P w base T).kp (ok__law_draw P w base T).b .nil pass0 (pa_cons (pv 0) (pa_cons (pv 1) pa_nil)))) pa_nil)))) (pa_cons (pe_call (ok__law_field P w base T).ok (hr.mono (by decide)) (by rfl) T.g__law_field (ok__law_field P w base T).kp (ok__law_field P w base T).b .nil pass0 (pa_cons (pv 0) pa_nil)) pa_nil))))
        (pss_one (ps_ret (pe_tup (pa_cons (pv 2) (pa_cons (pe_call (ok__law_draw P w base T).ok (hr.mono (by decide)) (by rfl) T.g__law_draw (ok__law_draw P w base T).kp (ok__law_draw P w base T).b .nil pass0 (pa_cons (pv 0) (pa_cons (pe_callB call_len_seq (by rfl) T.b_len PySem.boot_len (pa_cons (pe_ix ix_list (pv 2) pe_int (fun _ _ => rfl)) pa_nil)) pa_nil))) pa_nil))))), ?_⟩
    refine ⟨_, rfl, _, rfl, src, n, 3, rfl, hS, by omega, by decide, by decide, fun H1 d1 b1 hS1 hd1 => ⟨_, _, rfl, rfl, ?_⟩⟩
    refine ⟨_, rfl, _, rfl, src, n + 1, 6, rfl, hS1, by omega, by decide, by decide, fun H2 d2 b2 hS2 hd2 => ⟨_, _, rfl, rfl, ?_⟩⟩
    refine ⟨src, n + 2, 1 + d1, 1 + d2, by rw [Int.natCast_add, Int.natCast_add]; rfl, hS2, by omega, by omega, by omega, fun H3 fo rws b3 hS3 hfo hF hl hB => ?_⟩
    refine ⟨_, rfl, src, n + 2 + 10 * (1 + d2), rfl, hS3, by omega, fun H4 f b4 hS4 hf => ?_⟩
    have hF4 := hF.but b4
    refine ⟨(by show 2 ≤ sizeLine; decide), fun pp hpp => ?_⟩
    have s5 := same_upd (o := .lst [.ref fo, .int f]) hpp
    have npp : pp ≠ src := fun e => by obtain ⟨_, _, _, h, _⟩ := hS4; rw [e, h] at hpp; cases hpp
    have hF5 := hF4.but (sbut s5)
    obtain ⟨_, ras, f1, f2, _⟩ := id hF5
    have e0 : atI [V.ref fo, V.int f] (0 : Int) = some (.ref fo) := at_nat (j := 0) rfl
    refine ⟨_, rfl, _, rfl, _, rfl, pp, _, _, _, rfl, rfl, SqL.of upd_same, e0, fo, _, rfl, .inl (SqL.of f1), src, n + 2 + 10 * (1 + d2) + 1, rws.length, by rw [List.length_map, f2]; rfl, hS4.same s5, by omega, by omega, by omega, fun H6 g b6 hS6 hg => ?_⟩
    refine ⟨(by show 2 ≤ sizeLine; decide), fun r hr => ?_⟩
    have s7 := same_upd (o := .tup [.ref pp, .int (g : Int)]) hr
    have b57 := (sbut s5).trans (b6.trans (sbut s7))
    exact q _ r pp fo rws (1 + d1) f g (b1.trans (b2.trans (b3.trans (b4.trans b57)))) ((hS6.same s7).mono (by omega)) upd_same (s7 _ _ (b6 _ _ upd_same npp)) (hF4.but b57) hB (by omega) (by omega) (by omega) (by omega) hf hg npp
end
end FL
/-! The law's columns and turned table on lists. Plain Lean, no program. -/
namespace FL
/-- a list of numbers: how many, how great, reduced -/
structure LOk (p : Int) (n b : Nat) (v : List Int) : Prop where
  len : v.length = n
  bd : ∀ x, x ∈ v → x.natAbs < 2 ^ b
  rd : p > 0 → ∀ x, x ∈ v → 0 ≤ x ∧ x < p
theorem LOk.mono {p : Int} {n b c : Nat} {v : List Int} (h : LOk p n b v) (e : b ≤ c) : LOk p n c v := ⟨h.len, fun x hx => Nat.lt_of_lt_of_le (h.bd x hx) (Nat.pow_le_pow_right (by decide) e), h.rd⟩
theorem lean_lok {p : Int} {n b : Nat} {ns : List Int} (hp : p ∈ fields) (hl : ns.length = n) (hb : ∀ x, x ∈ ns → x.natAbs < 2 ^ b) (h4 : 4 ≤ b) : LOk p n b (leanL ns p) where
  len := by rw [leanL, List.length_map, hl]
  bd := fun x hx => by
    obtain ⟨y, hy, rfl⟩ := List.mem_map.mp hx
    exact leanF_lt hp h4 hy (hb y hy)
  rd := fun h x hx => by
    obtain ⟨y, hy, rfl⟩ := List.mem_map.mp hx
    exact leanF_red h y
theorem step_len {up down : Int} {v known : List Int} (h : v.length = known.length) : (stepV up down v known).length = v.length := by
  unfold stepV
  rw [List.length_zipWith, ← h, Nat.min_self]
theorem lean_rel {p up down : Int} {v known : List Int} (hp : p ∈ fields) (h : v.length = known.length) : ∃ e : Int, ¬ p ∣ e ∧ ∀ i, p ∣ e * vecL (leanL (stepV up down v known) p) i - (up * vecL v i - down * vecL known i) := by
  obtain ⟨e, he, hx⟩ := leanF_ok (ns := stepV up down v known) hp
  refine ⟨e, he, fun i => ?_⟩
  have e1 : vecL (leanL (stepV up down v known) p) i = leanF (stepV up down v known) p (up * vecL v i - down * vecL known i) := vec_zip h _ (leanF_zero _ _) i
  rw [e1]
  by_cases hi : i < (stepV up down v known).length
  · refine hx _ ?_
    have e2 : vecL ((stepV up down v known).map id) i = up * vecL v i - down * vecL known i := vec_zip h id rfl i
    rw [List.map_id] at e2
    rw [← e2, vecL, List.getD_eq_getElem?_getD, List.getElem?_eq_getElem hi]
    exact List.getElem_mem hi
  · have hl := step_len (up := up) (down := down) h
    have z1 : vecL v i = 0 := by rw [vecL, List.getD_eq_getElem?_getD, List.getElem?_eq_none (by omega)]; rfl
    have z2 : vecL known i = 0 := by rw [vecL, List.getD_eq_getElem?_getD, List.getElem?_eq_none (by omega)]; rfl
    rw [z1, z2, Int.mul_zero, Int.mul_zero, Int.sub_zero, leanF_zero, Int.mul_zero]
    exact Int.dvd_zero p
abbrev LF := List (Nat × List Int)
abbrev fab (F : LF) : List Lead := F.map fun s => (s.1, vecL s.2)
/-- how great, by how many were found -/
def bl : Nat → Nat → Nat
  | 1, _ => 9
  | 2, 0 => 29
  | 2, _ => 19
  | 3, 0 => 89
  | 3, 1 => 79
  | 3, _ => 59
  | _, _ => 9
def rb : Nat → Nat → Nat
  | 1, 0 => 9
  | 1, _ => 19
  | 2, 0 => 9
  | 2, 1 => 39
  | 2, _ => 59
  | _, _ => 9
structure CJ (T : Tab) (m : Nat) (F : LF) : Prop where
  j : Jord T.p T.n T.vec m (fab F)
  ok : ∀ (i : Nat) s, F[i]? = some s → LOk T.p T.n (bl F.length i) s.2
  le : F.length ≤ m
structure CJR (T : Tab) (m : Nat) (F : LF) (j : Nat) (v : List Int) : Prop where
  r : JRed T.p T.n T.vec m (fab F) (fab (F.take j)) (vecL v)
  ok : LOk T.p T.n (rb F.length j) v
section
variable {T : Tab} {m j : Nat} {F : LF} {v : List Int}
theorem cj_start : CJ T 0 [] := ⟨jord_start, fun i s h => by simp at h, Nat.le_refl _⟩
theorem rb_ge (L j : Nat) : 9 ≤ rb L j := by
  unfold rb
  split <;> decide
theorem bl_ge (L j : Nat) : 9 ≤ bl L j := by
  unfold bl
  split <;> decide
theorem cjr_start (ok : LOk T.p T.n 9 v) (h : ∀ k, k < T.n → vecL v k = T.vec k m) : CJR T m F 0 v := by
  refine ⟨?_, ok.mono (rb_ge _ _)⟩
  rw [List.take_zero]
  refine jred_start fun k => ?_
  unfold colv
  by_cases hk : k < T.n
  · rw [if_pos hk, h k hk, Int.sub_self]; exact Int.dvd_zero _
  · rw [if_neg hk]
    have z : vecL v k = 0 := by rw [vecL, List.getD_eq_getElem?_getD, List.getElem?_eq_none (by rw [ok.len]; omega)]; rfl
    rw [z]; exact Int.dvd_zero _
theorem fab_at {i : Nat} {s : Nat × List Int} (h : F[i]? = some s) : (fab F)[i]? = some (s.1, vecL s.2) := by rw [List.getElem?_map, h]; rfl
theorem rb_step {L : Nat} (h : L ≤ 2) (hj : j < L) : rb L j + bl L j + 1 ≤ rb L (j + 1) ∧ rb L j ≤ rb L (j + 1) := by
  match L, j, h, hj with
  | 1, 0, _, _ => decide
  | 2, 0, _, _ => decide
  | 2, 1, _, _ => decide
theorem CJR.skip {s : Nat × List Int} (J : CJ T m F) (R : CJR T m F j v) (h2 : F.length ≤ 2) (hs : F[j]? = some s) (h : v[s.1]? = some 0) : CJR T m F (j + 1) v := by
  have hj : j < F.length := (List.getElem?_eq_some_iff.mp hs).1
  refine ⟨?_, R.ok.mono (rb_step h2 hj).2⟩
  rw [List.take_add_one, hs]
  show JRed _ _ _ _ _ (List.map _ (F.take j ++ [s])) _
  rw [List.map_append]
  refine R.r.skip (s := (s.1, vecL s.2)) ?_
  show T.p ∣ vecL v s.1
  rw [vecL, List.getD_eq_getElem?_getD, h]
  exact Int.dvd_zero _
theorem CJR.step {s : Nat × List Int} {up down : Int} (hp : T.p ∈ fields) (J : CJ T m F) (R : CJR T m F j v) (h2 : F.length ≤ 2) (hs : F[j]? = some s) (hu : s.2[s.1]? = some up) (hd : v[s.1]? = some down) : CJR T m F (j + 1) (leanL (stepV up down v s.2) T.p) := by
  have hj : j < F.length := (List.getElem?_eq_some_iff.mp hs).1
  have ks := J.ok j s hs
  have hl : v.length = s.2.length := by rw [R.ok.len, ks.len]
  obtain ⟨e, he, hv⟩ := lean_rel (up := up) (down := down) hp hl
  refine ⟨?_, lean_lok hp (by rw [step_len hl, R.ok.len]) (fun x hx => ?_) (Nat.le_trans (by decide) (rb_ge F.length (j + 1)))⟩
  · rw [List.take_add_one, hs]
    show JRed _ _ _ _ _ (List.map _ (F.take j ++ [s])) _
    rw [List.map_append]
    have eF : fab F = fab (F.take j) ++ (s.1, vecL s.2) :: fab (F.drop (j + 1)) := by
      have : F = F.take j ++ s :: F.drop (j + 1) := by rw [← (List.getElem?_eq_some_iff.mp hs).2, List.getElem_cons_drop, List.take_append_drop]
      conv => lhs; rw [this]
      rw [fab, List.map_append, List.map_cons]
    refine JRed.step (fld_mem hp) J.j R.r eF he fun i => ?_
    have a1 : vecL s.2 s.1 = up := by rw [vecL, List.getD_eq_getElem?_getD, hu]; rfl
    have a2 : vecL v s.1 = down := by rw [vecL, List.getD_eq_getElem?_getD, hd]; rfl
    show T.p ∣ _ - (vecL s.2 s.1 * vecL v i - vecL v s.1 * vecL s.2 i)
    rw [a1, a2]
    exact hv i
  · obtain ⟨x1, y1, g1, g2, e⟩ := mem_zip hx
    rw [e]
    have b1 := comb_lt (a := bl F.length j) (b := rb F.length j) x1 y1 (ks.bd _ (List.mem_of_getElem? hu)) (R.ok.bd _ g1) (R.ok.bd _ (List.mem_of_getElem? hd)) (ks.bd _ g2)
    exact Nat.lt_of_lt_of_le b1 (Nat.pow_le_pow_right (by decide) (by have := (rb_step h2 hj).1; omega))
theorem CJ.same (J : CJ T m F) (R : CJR T m F F.length v) (h : ∀ x, x ∈ v → x = 0) : CJ T (m + 1) F := by
  have r := R.r
  rw [List.take_length] at r
  refine ⟨J.j.same r fun i => ?_, J.ok, Nat.le_succ_of_le J.le⟩
  by_cases hi : i < v.length
  · rw [vecL, List.getD_eq_getElem?_getD, List.getElem?_eq_getElem hi]
    show T.p ∣ v[i]
    rw [h _ (List.getElem_mem hi)]
    exact Int.dvd_zero _
  · rw [vecL, List.getD_eq_getElem?_getD, List.getElem?_eq_none (by omega)]
    exact Int.dvd_zero _
theorem bl_add {L i : Nat} (h : L ≤ 2) (hi : i < L) : bl L i + rb L L + 1 ≤ bl (L + 1) i := by
  match L, i, h, hi with
  | 1, 0, _, _ => decide
  | 2, 0, _, _ => decide
  | 2, 1, _, _ => decide
theorem bl_new {L : Nat} (h : L ≤ 2) : rb L L ≤ bl (L + 1) L := by
  match L, h with
  | 0, _ => decide
  | 1, _ => decide
  | 2, _ => decide
/-- found anew -/
def lessF (p x : Int) (l : Nat) (v : List Int) (s : Nat × List Int) : Nat × List Int := (s.1, leanL (stepV x (vecL s.2 l) s.2 v) p)
theorem CJ.add (hp : T.p ∈ fields) (J : CJ T m F) (R : CJR T m F F.length v) (h2 : F.length ≤ 2) {l : Nat} {x : Int} (hl : v[l]? = some x) (hx : x ≠ 0) : CJ T (m + 1) (F.map (lessF T.p x l v) ++ [(l, v)]) := by
  have r := R.r
  rw [List.take_length] at r
  have ln : l < T.n := by rw [← R.ok.len]; exact (List.getElem?_eq_some_iff.mp hl).1
  have e0 : vecL v l = x := by rw [vecL, List.getD_eq_getElem?_getD, hl]; rfl
  have nd : ¬ T.p ∣ vecL v l := by
    rw [e0]
    exact red_nd hp (fun h => R.ok.rd h x (List.mem_of_getElem? hl)) hx
  have ef : fab (F.map (lessF T.p x l v) ++ [(l, v)]) = fab (F.map (lessF T.p x l v)) ++ [(l, vecL v)] := by rw [fab, List.map_append]; rfl
  refine ⟨?_, fun i s hs => ?_, by rw [List.length_append, List.length_map]; exact Nat.succ_le_succ J.le⟩
  · rw [ef]
    refine J.j.add (fld_mem hp) r ln nd (by rw [List.length_map, List.length_map, List.length_map]) fun i s hs => ?_
    rw [List.getElem?_map] at hs
    obtain ⟨s0, h0, rfl⟩ := Option.map_eq_some_iff.mp hs
    have k0 := J.ok i s0 h0
    obtain ⟨e, he, hv⟩ := lean_rel (up := x) (down := vecL s0.2 l) (v := s0.2) (known := v) hp (by rw [k0.len, R.ok.len])
    refine ⟨(s0.1, vecL (leanL (stepV x (vecL s0.2 l) s0.2 v) T.p)), by rw [List.getElem?_map, List.getElem?_map, h0]; rfl, rfl, e, he, fun k => ?_⟩
    rw [e0]
    exact hv k
  · rw [List.length_append, List.length_map]
    by_cases hi : i < F.length
    · rw [List.getElem?_append_left (by rw [List.length_map]; exact hi), List.getElem?_map] at hs
      obtain ⟨s0, h0, rfl⟩ := Option.map_eq_some_iff.mp hs
      have k0 := J.ok i s0 h0
      have hl0 : s0.2.length = v.length := by rw [k0.len, R.ok.len]
      refine lean_lok hp (by rw [step_len hl0, k0.len]) (fun y hy => ?_) (Nat.le_trans (by decide) (bl_ge _ i))
      obtain ⟨x1, y1, g1, g2, e⟩ := mem_zip hy
      rw [e]
      have dm : vecL s0.2 l ∈ s0.2 := by
        have h3 : l < s0.2.length := by rw [k0.len]; exact ln
        rw [vecL, List.getD_eq_getElem?_getD, List.getElem?_eq_getElem h3]
        exact List.getElem_mem h3
      have b1 := comb_lt (a := rb F.length F.length) (b := bl F.length i) x1 y1 (R.ok.bd _ (List.mem_of_getElem? hl)) (k0.bd _ g1) (k0.bd _ dm) (R.ok.bd _ g2)
      exact Nat.lt_of_lt_of_le b1 (Nat.pow_le_pow_right (by decide) (by have := bl_add h2 hi; show _ ≤ bl (F.length + 1) i; omega))
    · rw [List.getElem?_append_right (by rw [List.length_map]; omega)] at hs
      have hj : i - (F.map (lessF T.p x l v)).length = 0 := by
        have : i - (F.map (lessF T.p x l v)).length < 1 := (List.getElem?_eq_some_iff.mp hs).1
        omega
      rw [hj] at hs
      have e1 : (l, v) = s := Option.some.inj hs
      subst e1
      have hi2 : i = F.length := by rw [List.length_map] at hj; omega
      subst hi2
      exact R.ok.mono (bl_new h2)
end
end FL
/-! The law's columns. -/
set_option Elab.async false
set_option linter.all false
set_option maxRecDepth 1000000
set_option maxHeartbeats 8000000
namespace FL
open PySem PySem.Spec PyProof.Rows L2
def FdAt (H : Hp) (fd : Addr) (F : LF) : Prop := ∃ qs : List Addr, H fd = some (.lst (qs.map V.ref)) ∧ qs.length = F.length ∧ ∀ (i : Nat) s, F[i]? = some s → ∃ q ra, qs[i]? = some q ∧ H q = some (.tup [.int (s.1 : Int), .ref ra]) ∧ H ra = some (.lst (s.2.map V.int))
theorem FdAt.same {H H' : Hp} {fd : Addr} {F : LF} (h : FdAt H fd F) (e : Same H H') : FdAt H' fd F := by
  obtain ⟨qs, h1, h2, h3⟩ := h
  exact ⟨qs, e _ _ h1, h2, fun i s hs => let ⟨q, ra, a1, a2, a3⟩ := h3 i s hs; ⟨q, ra, a1, e _ _ a2, e _ _ a3⟩⟩
def leadN (v : List Int) : List Nat := (List.range v.length).filter fun j => v.getD j 0 != 0
theorem lead_ixs (v : List Int) : (List.range v.length).filterMap (leadF v) = ixs (leadN v) := by
  have h : ∀ n, n ≤ v.length → (List.range n).filterMap (leadF v) = ixs ((List.range n).filter fun j => v.getD j 0 != 0) := fun n => by
    induction n with
    | zero => intro _; rfl
    | succ n ih =>
      intro hn
      rw [List.range_succ, List.filterMap_append, List.filter_append, ixs, List.map_append, ih (by omega)]
      congr 1
      have e1 : v[n]? = some v[n] := List.getElem?_eq_getElem (by omega)
      have e2 : v.getD n 0 = v[n] := by rw [List.getD_eq_getElem?_getD, e1]; rfl
      rw [List.filterMap_cons, List.filter_cons, e2, leadF, e1]
      by_cases h0 : v[n] = 0
      · simp [h0]
      · simp [h0]
  exact h _ (Nat.le_refl _)
theorem leadN_mem {v : List Int} {l : Nat} (h : l ∈ leadN v) : ∃ x, v[l]? = some x ∧ x ≠ 0 := by
  obtain ⟨h1, h2⟩ := List.mem_filter.mp h
  have hl := List.mem_range.mp h1
  refine ⟨v[l], List.getElem?_eq_getElem hl, ?_⟩
  have e2 : v.getD l 0 = v[l] := by rw [List.getD_eq_getElem?_getD, List.getElem?_eq_getElem hl]; rfl
  rw [e2] at h2
  simpa using h2
theorem leadN_all {v : List Int} (h : leadN v = []) : ∀ x, x ∈ v → x = 0 := fun x hx => by
  obtain ⟨j, hj⟩ := List.getElem?_of_mem hx
  have hl := (List.getElem?_eq_some_iff.mp hj).1
  rw [leadN, List.filter_eq_nil_iff] at h
  have := h j (List.mem_range.mpr hl)
  rw [List.getD_eq_getElem?_getD, hj] at this
  simpa using this
/-- a column -/
def colL (f : Int) (rws : List (List Int)) (i : Nat) : List Int := rws.map fun r => if f > 0 then r.getD i 0 % f else r.getD i 0
theorem col_vec {f : Int} {W : Nat} {rws : List (List Int)} {i k : Nat} (hk : k < rws.length) (hw : ∀ r, r ∈ rws → r.length = W) (hi : i < W) : vecL (colL f rws i) k = (redT f W rws).vec k i := by
  have e1 : rws[k]? = some rws[k] := List.getElem?_eq_getElem hk
  have hl := hw _ (List.getElem_mem hk)
  have e2 : (rws[k])[i]? = some (rws[k])[i] := List.getElem?_eq_getElem (by omega)
  show (colL f rws i).getD k 0 = ((redT f W rws).rows.getD k []).getD i 0
  rw [colL, List.getD_eq_getElem?_getD, List.getElem?_map, e1, List.getD_eq_getElem?_getD]
  show (if f > 0 then (rws[k]).getD i 0 % f else (rws[k]).getD i 0) = _
  rw [redT, List.getD_eq_getElem?_getD, List.getD_eq_getElem?_getD, List.getElem?_map, e1, e2]
  show _ = ((rws[k].map fun x => if f > 0 then x % f else x)[i]?).getD 0
  rw [List.getElem?_map, e2]
  rfl
section
variable (P : Program) (w : World) {K : PySem.W.Frag} {mg : Str → Option Value} (base : Heap) {a : At}
/-- parts: rows and field -/
structure PartsAt (H : Hp) (pp rp : Addr) (rws : List (List Int)) (W : Nat) (f : Int) : Prop where
  pp : H pp = some (.lst [.ref rp, .int f])
  rp : RwsAt H rp rws
  n0 : 0 < rws.length
  n6 : rws.length ≤ 6
  w1 : 1 ≤ W
  w3 : W ≤ 3
  wid : ∀ r, r ∈ rws → r.length = W
  bd : ∀ r, r ∈ rws → ∀ x, x ∈ r → x.natAbs < 2 ^ 9
  fp : f ∈ fields
theorem PartsAt.same {H H' : Hp} {pp rp : Addr} {rws : List (List Int)} {W : Nat} {f : Int} (h : PartsAt H pp rp rws W f) (s : Same H H') : PartsAt H' pp rp rws W f := ⟨s _ _ h.pp, h.rp.same s, h.n0, h.n6, h.w1, h.w3, h.wid, h.bd, h.fp⟩
def sp_columns (K : PySem.W.Frag) : Sp := fun vs H Q _ => ∃ (pp rp : Addr) (rws : List (List Int)) (W : Nat) (f : Int), vs = [.ref pp] ∧ PartsAt H pp rp rws W f ∧ ∀ H' fd F, Same H H' → FdAt H' fd F → CJ (redT f W rws) W F → Q (.ref fd) H'
theorem ok__law_columns (T : Tx K mg a) : Fn P w K mg base 4 a._law_columns (sp_columns K) := by
  refine fn_d T.F__law_columns sc__law_columns (fun _ _ _ _ _ _ us hl => match us, hl with | [_], _ => rfl) (fun vs H Q E h => ?_) fun cdv A outer s H vs Q E hr h => ?_
  · obtain ⟨pp, rp, rws, W, f, rfl, _⟩ := h
    rfl
  · obtain ⟨pp, rp, rws, W, f, rfl, hP, q⟩ := h
    refine ⟨_, pss_cons (ps_asg (pe_tup (pa_cons (pe_ix ix_list (pv 0) pe_int (fun _ _ => rfl)) (pa_cons (pe_lst pa_nil) pa_nil))) (pg_tup rfl (pgs_cons (pg_name (i := 1) sc__law_columns.nd rfl (by first | exact Or.inl rfl | exact Or.inr rfl)) (pgs_cons (pg_name (i := 2) sc__law_columns.nd rfl (by first | exact Or.inl rfl | exact Or.inr rfl)) pgs_nil))))
        (pss_cons (ps_for PassesOwn.never rfl (pi_range1 (by rfl) T.b_range (pa_cons (pe_callB call_len_seq (by rfl) T.b_len PySem.boot_len (pa_cons (pe_ix ix_list (pe_ix ix_list (pv 0) pe_int (fun _ _ => rfl)) pe_int (fun _ _ => rfl)) pa_nil)) pa_nil)) (pg_name (i := 3) sc__law_columns.nd rfl (by first | exact Or.inl rfl | exact Or.inr rfl)) (pss_cons (ps_set (i := 4) sc__law_columns.nd rfl (by first | exact Or.inl rfl | exact Or.inr rfl) (pe_lc (own := [("_law_one", 8)]) rfl sc__law_columns.nd (pi_list (pe_ix ix_list (pv 0) pe_int (fun _ _ => rfl))) (blkOk_by (N := ["_law_parts", "_law_field_here", "_law_found", "_law_place", "_law_row", "_law_lead", "_law_known", "_law_leads", "_law_one", "_law_x", "_law_y", "_law_k", "_law_number"]) (sc := defScope s__law_columns) (by decide +kernel)) (fun _ _ _ _ _ => (pg_name (i := 8) sc__law_columns.nd rfl (by first | exact Or.inl rfl | exact Or.inr rfl))) (fun _ _ _ _ _ => pts_nil) (fun _ _ _ _ _ => (pe_ifExp (pt_cmpR op_gt (pv 1) pe_int (nomark _)) (pe_op op_mod (pe_callTy call_int1 (by rfl) T.b_int (by decide +kernel) (pa_cons (pe_ix (ix_listK (K := K)) (pv 8) (pv 3) (fun _ _ => rfl)) pa_nil)) (pv 1)) (pe_ix (ix_listK (K := K)) (pv 8) (pv 3) (fun _ _ => rfl))))))
        (pss_cons (ps_for PassesOwn.never rfl (pi_list (pv 2)) (pg_tup rfl (pgs_cons (pg_name (i := 5) sc__law_columns.nd rfl (by first | exact Or.inl rfl | exact Or.inr rfl)) (pgs_cons (pg_name (i := 6) sc__law_columns.nd rfl (by first | exact Or.inl rfl | exact Or.inr rfl)) pgs_nil))) (pss_one (ps_if (pt_cmpR op_ne (pe_ix ix_list (pv 4) (pv 5) (fun _ _ => rfl)) pe_int (nomark _)) (pss_one (ps_set (i := 4) sc__law_columns.nd rfl (by first | exact Or.inl rfl | exact Or.inr rfl) (pe_call (ok__law_lean P w base T).ok (hr.mono (by decide)) (by rfl) T.g__law_lean (ok__law_lean P w base T).kp (ok__law_lean P w base T).b .nil pass0 (pa_cons (pe_lc (own := [("_law_x", 9), ("_law_y", 10)]) rfl sc__law_columns.nd (pi_zip (by rfl) T.b_zip (pa_cons (pv 4) (pa_cons (pv 6) pa_nil))) (blkOk_by (N := ["_law_parts", "_law_field_here", "_law_found", "_law_place", "_law_row", "_law_lead", "_law_known", "_law_leads", "_law_one", "_law_x", "_law_y", "_law_k", "_law_number"]) (sc := defScope s__law_columns) (by decide +kernel)) (fun _ _ _ _ _ => (pg_two (K := K) 9 10 sc__law_columns.nd)) (fun _ _ _ _ _ => pts_nil) (fun _ _ _ _ _ => (pe_op op_sub (pe_op op_mulW (pe_ix (ix_listK (K := K)) (pv 6) (pv 5) (fun _ _ => rfl)) (pv 9)) (pe_op op_mulW (pe_ix (ix_listK (K := K)) (pv 4) (pv 5) (fun _ _ => rfl)) (pv 10))))) (pa_cons (pv 1) pa_nil))))) pss_nil)))
        (pss_cons (ps_set (i := 7) sc__law_columns.nd rfl (by first | exact Or.inl rfl | exact Or.inr rfl) (pe_lc (own := [("_law_k", 11), ("_law_number", 12)]) rfl sc__law_columns.nd (pi_enum (by rfl) T.b_enumerate (pa_cons (pv 4) pa_nil)) (blkOk_by (N := ["_law_parts", "_law_field_here", "_law_found", "_law_place", "_law_row", "_law_lead", "_law_known", "_law_leads", "_law_one", "_law_x", "_law_y", "_law_k", "_law_number"]) (sc := defScope s__law_columns) (by decide +kernel)) (fun _ _ _ _ _ => (pg_two (K := K) 11 12 sc__law_columns.nd)) (fun _ _ _ _ _ => (pts_one (pt_cmpR op_ne (pv 12) pe_int (nomark _)))) (fun _ _ _ _ _ => (pv 11))))
        (pss_one (ps_if (pt_cmpR (op_neD hr.units) (pv 7) (pe_lst pa_nil) (nomark _)) (pss_one (ps_set (i := 2) sc__law_columns.nd rfl (by first | exact Or.inl rfl | exact Or.inr rfl) (pe_op op_cat (pe_lc (own := [("_law_lead", 5), ("_law_known", 6)]) rfl sc__law_columns.nd (pi_list (pv 2)) (blkOk_by (N := ["_law_parts", "_law_field_here", "_law_found", "_law_place", "_law_row", "_law_lead", "_law_known", "_law_leads", "_law_one", "_law_x", "_law_y", "_law_k", "_law_number"]) (sc := defScope s__law_columns) (by decide +kernel)) (fun _ _ _ _ _ => (pg_two (K := K) 5 6 sc__law_columns.nd)) (fun _ _ _ _ _ => pts_nil) (fun _ _ _ _ _ => (pe_tup (pa_cons (pv 5) (pa_cons (pe_call (ok__law_less P w base T).ok (hr.mono (by decide)) (by rfl) T.g__law_less (ok__law_less P w base T).kp (ok__law_less P w base T).b .nil pass0 (pa_cons (pv 6) (pa_cons (pv 4) (pa_cons (pe_ix (ix_listK (K := K)) (pv 7) pe_int (fun _ _ => rfl)) (pa_cons (pv 1) pa_nil))))) pa_nil))))) (pe_lst (pa_cons (pe_tup (pa_cons (pe_ix ix_list (pv 7) pe_int (fun _ _ => rfl)) (pa_cons (pv 4) pa_nil))) pa_nil))))) pss_nil))))))
        (pss_one (ps_ret (pv 2)))), ?_⟩
    have e0 : atI [V.ref rp, V.int f] (0 : Int) = some (.ref rp) := at_nat (j := 0) rfl
    have e1 : atI [V.ref rp, V.int f] (1 : Int) = some (.int f) := at_nat (j := 1) rfl
    obtain ⟨ras, r1, r2, r3⟩ := id hP.rp
    obtain ⟨r0, hr0⟩ : ∃ r, rws[0]? = some r := ⟨rws[0]'hP.n0, List.getElem?_eq_getElem hP.n0⟩
    obtain ⟨ra0, q1, q2⟩ := r3 0 r0 hr0
    have lr0 : (r0.map V.int).length = W := by rw [List.length_map]; exact hP.wid r0 (List.mem_of_getElem? hr0)
    have hi0 : atI (ras.map V.ref) (0 : Int) = some (.ref ra0) := at_nat (j := 0) (at_map V.ref q1)
    have n6 := hP.n6
    have w3 := hP.w3
    have fnn := fld_nn hP.fp
    refine ⟨_, rfl, pp, _, _, _, rfl, rfl, SqL.of hP.pp, e1, Nat.zero_le _, fun fd0 hfd0 => ⟨(by show 2 ≤ sizeLine; decide), fun tp htp => ⟨tp, _, rfl, SqT.of upd_same, rfl, _, _, rfl, _, _, rfl, rfl, ?_⟩⟩⟩
    have s1 := same_upd (o := .lst []) hfd0
    have s2 := s1.trans (same_upd (o := .tup [.int f, .ref fd0]) htp)
    refine ⟨_, rfl, pp, _, _, _, rfl, rfl, SqL.of (s2 _ _ hP.pp), e0, rp, _, _, _, rfl, rfl, SqL.of (s2 _ _ r1), hi0, ra0, _, rfl, .inl (SqL.of (s2 _ _ q2)), ((W : Nat) : Int), by rw [lr0], by omega, by omega, ?_⟩
    refine for_it (walk_range (lo := 0) (n := W)) (fun i σ H' => ∃ (fd : Addr) (F : LF) (y3 y4 y5 y6 y7 y8 y9 y10 y11 y12 : Option V), σ = [some (.ref pp), some (.int f), some (.ref fd), y3, y4, y5, y6, y7, y8, y9, y10, y11, y12] ∧ Same H H' ∧ FdAt H' fd F ∧ CJ (redT f W rws) i F)
      ?_ (fun i σ H' _ _ => trivial) (fun i z σ H3 H4 hi hQ hy => ?_) fun σ H3 hQ => ?_
    · exact ⟨fd0, [], none, none, none, none, none, none, none, none, none, none, rfl, s2, ⟨[], same_upd htp _ _ upd_same, rfl, fun i s h => by simp at h⟩, cj_start⟩
    · obtain ⟨fd, F, y3, y4, y5, y6, y7, y8, y9, y10, y11, y12, rfl, s3, hF, J⟩ := hQ
      obtain ⟨rfl, hz⟩ := hy
      obtain rfl : z = .int (i : Int) := by rw [hz]; show V.int (0 + (i : Int)) = _; rw [Int.zero_add]
      have F2 : F.length ≤ 2 := by have := J.le; omega
      have lras : (ras.map V.ref).length = rws.length := by rw [List.length_map]; exact r2
      -- the column
      refine ⟨_, rfl, pp, _, _, _, rfl, rfl, SqL.of (s3 _ _ hP.pp), e0, rp, rfl, ⟨_, SqL.of (s3 _ _ r1)⟩, fun D hD => ?_⟩
      refine lc_w (walk_list (xs := ras.map V.ref)) (fun j => rws[j]?.bind fun r => some (.int (if f > 0 then r.getD i 0 % f else r.getD i 0))) hD (by rw [lras]; omega) (fun H5 s5 => SqL.of (s5 _ _ (s3 _ _ r1))) (fun j z H5 H6 hj s5 hy take skip => ?_) fun H5 s5 hD5 => ?_
      · obtain ⟨rfl, hz⟩ := hy
        obtain ⟨ra, hra, rfl⟩ := ref_at hz
        have hil : j < rws.length := by rw [← r2]; exact (List.getElem?_eq_some_iff.mp hra).1
        have hrj : rws[j]? = some rws[j] := List.getElem?_eq_getElem hil
        obtain ⟨ra', g1, g2⟩ := r3 j rws[j] hrj
        rw [hra] at g1
        obtain rfl : ra = ra' := Option.some.inj g1
        have hwr := hP.wid _ (List.getElem_mem hil)
        generalize rws[j] = r at *
        have g6 := s5 _ _ (s3 _ _ g2)
        have hx : r[i]? = some (r.getD i 0) := by rw [List.getD_eq_getElem?_getD, List.getElem?_eq_getElem (show i < r.length by omega)]; rfl
        have hix := at_nat (at_map V.int hx)
        refine ⟨rfl, _, rfl, f, 0, rfl, rfl, _, rfl, ?_⟩
        by_cases hp : (0 : Int) < f
        · exact itT (decide_eq_true hp) ⟨_, rfl, _, rfl, ra, _, _, _, rfl, rfl, SqL.of g6, hix, .inl ⟨_, rfl, _, rfl, _, f, rfl, rfl, hp, take _ _ (by rw [hrj]; show some (V.int (if f > 0 then _ else _)) = _; rw [if_pos hp]) (Same.refl _)⟩⟩
        · exact itF (decide_eq_false hp) ⟨_, rfl, _, rfl, ra, _, _, _, rfl, rfl, SqL.of g6, hix, take _ _ (by rw [hrj]; show some (V.int (if f > 0 then _ else _)) = _; rw [if_neg hp]) (Same.refl _)⟩
      rw [lras, range_fm rws fun r => some (V.int (if f > 0 then r.getD i 0 % f else r.getD i 0)), fm_some] at hD5
      have hDc : H5 D = some (.lst ((colL f rws i).map V.int)) := by rw [hD5, colL, List.map_map]; rfl
      have colok : LOk (redT f W rws).p (redT f W rws).n 9 (colL f rws i) := by
        refine ⟨by show (rws.map _).length = (rws.map _).length; rw [List.length_map, List.length_map], fun x hx => ?_, fun hf x hx => ?_⟩
        · obtain ⟨r, hr, rfl⟩ := List.mem_map.mp hx
          have hm : r.getD i 0 ∈ r := by
            have : i < r.length := by rw [hP.wid r hr]; exact hi
            rw [List.getD_eq_getElem?_getD, List.getElem?_eq_getElem this]
            exact List.getElem_mem this
          have h1 := hP.bd r hr _ hm
          show (if f > 0 then _ else _ : Int).natAbs < _
          by_cases hf : f > 0
          · rw [if_pos hf]
            have a1 := Int.emod_nonneg (r.getD i 0) (show f ≠ 0 by omega)
            have a2 := Int.emod_lt_of_pos (r.getD i 0) hf
            omega
          · rw [if_neg hf]
            exact h1
        · obtain ⟨r, hr, rfl⟩ := List.mem_map.mp hx
          have hf : f > 0 := hf
          show 0 ≤ (if f > 0 then _ else _ : Int) ∧ (if f > 0 then _ else _ : Int) < f
          rw [if_pos hf]
          exact ⟨Int.emod_nonneg _ (by omega), Int.emod_lt_of_pos _ hf⟩
      have R0 : CJR (redT f W rws) i F 0 (colL f rws i) := cjr_start colok fun k hk => col_vec (by show k < rws.length; have : k < (redT f W rws).rows.length := hk; rw [redT, List.length_map] at this; exact this) hP.wid hi
      have s35 := s3.trans s5
      obtain ⟨qs, f1, f2, f3⟩ := id (hF.same s5)
      -- made less by what was found
      refine ⟨_, rfl, fd, rfl, ⟨_, SqL.of f1⟩, ?_⟩
      have hf' : (redT f W rws).p ∈ fields := hP.fp
      refine for_it (walk_list (xs := qs.map V.ref)) (fun j σ H' => ∃ (rw : Addr) (v : List Int) (y5 y6 y7 y8 y9 y10 y11 y12 : Option V), σ = [some (.ref pp), some (.int f), some (.ref fd), some (.int (i : Int)), some (.ref rw), y5, y6, y7, y8, y9, y10, y11, y12] ∧ Same H5 H' ∧ H' rw = some (.lst (v.map V.int)) ∧ CJR (redT f W rws) i F j v)
        ⟨D, _, y5, y6, y7, y8, y9, y10, y11, y12, rfl, Same.refl _, hDc, R0⟩ (fun j σ H' _ h => ?_) (fun j z σ H6 H7 hj hQ hy => ?_) fun σ H6 hQ => ?_
      · obtain ⟨_, _, _, _, _, _, _, _, _, _, rfl, s, _⟩ := h
        exact SqL.of (s _ _ f1)
      · obtain ⟨rw_, v, y5, y6, y7, y8, y9, y10, y11, y12, rfl, s6, hrw, R⟩ := hQ
        obtain ⟨rfl, hz⟩ := hy
        obtain ⟨qj, hqj, rfl⟩ := ref_at hz
        have hjF : j < F.length := by rw [← f2]; exact (List.getElem?_eq_some_iff.mp hqj).1
        have hsj : F[j]? = some F[j] := List.getElem?_eq_getElem hjF
        obtain ⟨q0, ra, g1, g2, g3⟩ := f3 j F[j] hsj
        rw [hqj] at g1
        obtain rfl : qj = q0 := Option.some.inj g1
        have ks := J.ok j _ hsj
        have ln : (F[j]).1 < (redT f W rws).n := J.j.lt _ (List.mem_of_getElem? (fab_at hsj))
        generalize hs0 : F[j] = s0 at *
        have vl := R.ok.len
        have n6' : (redT f W rws).n ≤ 6 := by show (rws.map _).length ≤ 6; rw [List.length_map]; exact n6
        obtain ⟨dn, hdn⟩ : ∃ y, v[s0.1]? = some y := ⟨v[s0.1]'(by omega), List.getElem?_eq_getElem _⟩
        obtain ⟨up, hup⟩ : ∃ y, s0.2[s0.1]? = some y := ⟨s0.2[s0.1]'(by rw [ks.len]; exact ln), List.getElem?_eq_getElem _⟩
        refine ⟨qj, _, rfl, SqT.of (s6 _ _ g2), rfl, _, _, rfl, _, _, rfl, rfl, ?_⟩
        refine ⟨_, rfl, _, rfl, rw_, _, _, _, rfl, rfl, SqL.of hrw, at_nat (at_map V.int hdn), rfl, _, rfl, ?_⟩
        by_cases d0 : dn = 0
        · subst d0
          refine itF (by simp) ?_
          exact ⟨rw_, v, _, _, _, _, _, _, _, _, rfl, s6, hrw, R.skip J F2 hsj hdn⟩
        · refine itT (by simp [d0]) ?_
          have hlv : v.length = s0.2.length := by rw [vl, ks.len]
          have lsv : (stepV up dn v s0.2).length = v.length := step_len hlv
          have bk := rb_step F2 hjF
          have bz : rb F.length (j + 1) ≤ 59 := by
            have : j + 1 ≤ 2 := by omega
            unfold rb
            split <;> omega
          have b9 := rb_ge F.length j
          have c9 := bl_ge F.length j
          refine ⟨_, rfl, _, rfl, rw_, ra, _, _, rfl, SqL.of hrw, SqL.of (s6 _ _ g3), fun D2 hD2 => ?_⟩
          refine lc_w (walk_zip (n := v.length) (by rw [List.length_map, List.length_map, ← hlv, Nat.min_self])) (fun j => (stepV up dn v s0.2)[j]?.bind fun z => some (.int z)) hD2 (by omega) (fun H8 s8 => ⟨SqL.of (s8 _ _ hrw), SqL.of (s8 _ _ (s6 _ _ g3))⟩) (fun j2 z H8 H9 hj2 s8 hy4 take skip => ?_) fun H8 s8 hD8 => ?_
          · obtain ⟨T4, x4, z4, rfl, hT4, rfl, hx4, hz4⟩ := hy4
            obtain ⟨x5, hx5, rfl⟩ := int_at hx4
            obtain ⟨z5, hz5, rfl⟩ := int_at hz4
            have s9 := s8.trans (same_upd (o := .tup [.int x5, .int z5]) hT4)
            refine ⟨T4, _, rfl, SqT.of upd_same, rfl, _, _, rfl, _, _, rfl, rfl, rfl, ?_⟩
            refine ⟨_, rfl, _, rfl, ra, _, _, _, rfl, rfl, SqL.of (s9 _ _ (s6 _ _ g3)), at_nat (at_map V.int hup), _, rfl, up, x5, rfl, rfl, wide_mul (ks.bd _ (List.mem_of_getElem? hup)) (R.ok.bd _ (List.mem_of_getElem? hx5)) (by omega) (by omega) (by omega), ?_⟩
            refine ⟨_, rfl, _, rfl, rw_, _, _, _, rfl, rfl, SqL.of (s9 _ _ hrw), at_nat (at_map V.int hdn), _, rfl, dn, z5, rfl, rfl, wide_mul (R.ok.bd _ (List.mem_of_getElem? hdn)) (ks.bd _ (List.mem_of_getElem? hz5)) (by omega) (by omega) (by omega), _, _, rfl, rfl, take _ _ ?_ (same_upd hT4)⟩
            unfold stepV
            rw [List.getElem?_zipWith, hx5, hz5]
            rfl
          · rw [← lsv, range_fm (stepV up dn v s0.2) (fun z => some (V.int z)), fm_some] at hD8
            refine ⟨_, rfl, D2, stepV up dn v s0.2, f, rfl, hD8, fnn.1, by rw [lsv]; omega, fun z hz => ?_, fun H9 q9 s9 h9 => ?_⟩
            · obtain ⟨x1, y1, h1, h2, e⟩ := mem_zip hz
              rw [e]
              exact Nat.lt_of_lt_of_le (comb_lt (a := bl F.length j) (b := rb F.length j) x1 y1 (ks.bd _ (List.mem_of_getElem? hup)) (R.ok.bd _ h1) (R.ok.bd _ (List.mem_of_getElem? hdn)) (ks.bd _ h2)) (Nat.pow_le_pow_right (by decide) (by omega))
            · exact ⟨q9, _, _, _, _, _, _, _, _, _, rfl, s6.trans (s8.trans s9), h9, R.step hf' J F2 hsj hup hdn⟩
      obtain ⟨rw_, v, y5, y6, y7, y8, y9, y10, y11, y12, rfl, s6, hrw, R⟩ := hQ
      have eQ : (qs.map V.ref).length = F.length := by rw [List.length_map]; exact f2
      rw [eQ] at R
      have vl := R.ok.len
      have n6' : (redT f W rws).n ≤ 6 := by show (rws.map _).length ≤ 6; rw [List.length_map]; exact n6
      -- the leads
      refine ⟨_, rfl, rw_, _, rfl, SqL.of hrw, fun D2 hD2 => ?_⟩
      refine lc_w (walk_enum (xs := v.map V.int)) (leadF v) hD2 (by rw [List.length_map]; omega) (fun H8 s8 => SqL.of (s8 _ _ hrw)) (fun j z H8 H9 hj s8 hy5 take skip => ?_) fun H8 s8 hD8 => ?_
      · obtain ⟨T4, x4, z4, rfl, hT4, rfl, hx4, hz4⟩ := hy5
        obtain ⟨z, hz, rfl⟩ := int_at hz4
        obtain rfl : V.int (j : Int) = x4 := Option.some.inj hx4
        refine ⟨T4, _, rfl, SqT.of upd_same, rfl, _, _, rfl, _, _, rfl, rfl, rfl, _, rfl, rfl, _, rfl, ?_⟩
        by_cases h0 : z = 0
        · refine itF (by rw [dec_int, h0]; rfl) (skip _ (by unfold leadF; rw [hz]; simp [h0]) (same_upd hT4))
        · exact itT (by rw [dec_int]; simp [h0]) ⟨_, rfl, take _ _ (by unfold leadF; rw [hz]; simp [h0]) (same_upd hT4)⟩
      have ev : (v.map V.int).length = v.length := List.length_map _
      rw [ev, lead_ixs] at hD8
      have s68 := s6.trans s8
      refine ⟨_, rfl, Nat.zero_le _, fun nl hnl => ?_⟩
      have s9 := same_upd (o := .lst []) hnl
      have dpl : ∀ {H' : Hp}, H' D2 = some (.lst (ixs (leadN v))) → Dp K H' (.ref D2) (.list ((castL (leadN v)).map PyData.int)) := fun {H'} h => by
        refine .lst (SqL.of h) ?_
        rw [← ixs_cast]
        exact dp_ints _
      refine ⟨.list ((castL (leadN v)).map PyData.int), .list [], dpl (s9 _ _ hD8), .lst (SqL.of upd_same) .nil, PySem.W.shaped_ints _, rfl, _, rfl, ?_⟩
      have sAll := s35.trans (s68.trans s9)
      have hF9 := hF.same (s5.trans (s68.trans s9))
      cases hln : leadN v with
      | nil =>
        refine itF (by rfl) ?_
        exact ⟨fd, F, _, _, _, _, _, _, _, _, _, _, rfl, sAll, hF9, J.same R (leadN_all hln)⟩
      | cons l ls =>
        obtain ⟨x, hx, x0⟩ := leadN_mem (v := v) (l := l) (by rw [hln]; exact List.mem_cons_self)
        refine itT (by simp [PyData.eqv, PyData.eqvAll]) ?_
        have sA := s68.trans s9
        have gD2 := s9 _ _ hD8
        rw [hln] at gD2
        have gl : atI (ixs (l :: ls)) (0 : Int) = some (.int (l : Int)) := at_nat (j := 0) rfl
        have grw := s9 _ _ (s8 _ _ hrw)
        generalize upd H8 nl (.lst []) = HA at *
        have npos : 0 < (redT f W rws).n := by show 0 < (rws.map _).length; rw [List.length_map]; exact hP.n0
        refine ⟨_, rfl, fd, rfl, ⟨_, SqL.of (sA _ _ f1)⟩, fun D3 hD3 => ?_⟩
        refine lc_refs (walk_list (xs := qs.map V.ref)) (fun j c H => ∃ s ra, F[j]? = some s ∧ H c = some (.tup [.int (s.1 : Int), .ref ra]) ∧ H ra = some (.lst ((lessF f x l v s).2.map V.int)) ∧ (lessF f x l v s).2 ≠ []) hD3 (by rw [eQ]; omega) (fun H9 s9 => SqL.of (s9 _ _ (sA _ _ f1)))
          (fun j c H1 H' cs h n gD e => let ⟨s, ra, h1, h2, h3, h4⟩ := h; ⟨s, ra, h1, e _ _ n h2, e _ _ (fun q => ?_) h3, h4⟩) (fun j z H9 H10 hj s10 hy _ take => ?_) fun H9 cs s10 hD9 hl9 nd9 hcs => ?_
        · rw [q, gD] at h3
          have h5 : cs.map V.ref = (lessF f x l v s).2.map V.int := by injection h3 with h3; injection h3
          cases hq : (lessF f x l v s).2 with
          | nil => exact h4 hq
          | cons y ys =>
            rw [hq] at h5
            cases cs with
            | nil => cases h5
            | cons c cs => cases h5
        · obtain ⟨rfl, hz⟩ := hy
          obtain ⟨qj, hqj, rfl⟩ := ref_at hz
          have hjF : j < F.length := by rw [← f2]; exact (List.getElem?_eq_some_iff.mp hqj).1
          have hsj : F[j]? = some F[j] := List.getElem?_eq_getElem hjF
          obtain ⟨q0, ra, g1, g2, g3⟩ := f3 j F[j] hsj
          rw [hqj] at g1
          obtain rfl : qj = q0 := Option.some.inj g1
          have ks := J.ok j _ hsj
          generalize hs0 : F[j] = s0 at *
          have hlv : s0.2.length = v.length := by rw [vl, ks.len]
          have lv : l < v.length := (List.getElem?_eq_some_iff.mp hx).1
          have hy0 : s0.2[l]? = some (vecL s0.2 l) := by rw [vecL, List.getD_eq_getElem?_getD, List.getElem?_eq_getElem (show l < s0.2.length by omega)]; rfl
          have lsl : (leanL (stepV x (vecL s0.2 l) s0.2 v) f).length = v.length := by rw [leanL, List.length_map, step_len hlv, hlv]
          have b9 := rb_ge F.length F.length
          have c9 := bl_ge F.length j
          have bk := bl_add F2 hjF
          have bz : bl (F.length + 1) j ≤ 89 := by unfold bl; split <;> omega
          refine ⟨qj, _, rfl, SqT.of (s10 _ _ (sA _ _ g2)), rfl, _, _, rfl, _, _, rfl, rfl, rfl, ?_⟩
          refine ⟨_, rfl, _, rfl, _, rfl, _, rfl, D2, _, _, _, rfl, rfl, SqL.of (s10 _ _ gD2), gl, _, rfl, ?_⟩
          refine ⟨ra, rw_, s0.2, v, l, f, x, vecL s0.2 l, bl F.length j, rb F.length F.length, rfl, s10 _ _ (sA _ _ g3), s10 _ _ grw, hlv, by omega, hx, hy0, fnn.1, by omega, by omega, ks.bd, R.ok.bd, by omega, fun H11 q11 s11 h11 => ?_⟩
          refine ⟨(by show 2 ≤ sizeLine; decide), fun c hc => ?_⟩
          have s12 := same_upd (o := .tup [.int (s0.1 : Int), .ref q11]) hc
          exact take c _ ⟨s0, q11, hsj, upd_same, s12 _ _ h11, fun h0 => by have h0 : leanL (stepV x (vecL s0.2 l) s0.2 v) f = [] := h0; rw [h0] at lsl; simp at lsl; omega⟩ (s11.free hc) ⟨_, upd_same⟩ (s11.trans s12)
        · have s13 : Same HA H9 := s10
          refine ⟨_, rfl, D2, _, _, _, rfl, rfl, SqL.of (s10 _ _ gD2), gl, _, rfl, (by show 2 ≤ sizeLine; decide), fun tq htq => ⟨(by show 1 ≤ sizeLine; decide), fun l9 hl10 => ?_⟩⟩
          have s14 := same_upd (o := .tup [.int (l : Int), .ref rw_]) htq
          have s15 := same_upd (o := .lst [.ref tq]) hl10
          rw [eQ] at hl9
          refine ⟨D3, l9, _, _, rfl, rfl, s15 _ _ (s14 _ _ hD9), upd_same, by rw [List.length_map, hl9]; exact Nat.le_trans (show _ ≤ 3 by show F.length + 1 ≤ 3; omega) (by decide), fun fd' hfd' => ?_⟩
          have s16 := same_upd (o := .lst (cs.map V.ref ++ [.ref tq])) hfd'
          have s146 := s14.trans (s15.trans s16)
          refine ⟨fd', F.map (lessF f x l v) ++ [(l, v)], _, _, _, _, _, _, _, _, _, _, rfl, (s35.trans sA).trans (s10.trans s146), ⟨cs ++ [tq], by rw [upd_same, List.map_append]; rfl, by rw [List.length_append, List.length_append, List.length_map, hl9]; rfl, fun k s hs => ?_⟩, J.add hf' R F2 hx x0⟩
          by_cases hk : k < F.length
          · rw [List.getElem?_append_left (by rw [List.length_map]; exact hk), List.getElem?_map] at hs
            obtain ⟨s0, h0, rfl⟩ := Option.map_eq_some_iff.mp hs
            obtain ⟨⟨s1, ra, g1, g2, g3, _⟩, _, _⟩ := hcs k cs[k] (List.getElem?_eq_getElem (by omega))
            rw [h0] at g1
            obtain rfl : s0 = s1 := Option.some.inj g1
            exact ⟨cs[k], ra, by rw [List.getElem?_append_left (by omega), List.getElem?_eq_getElem], s146 _ _ g2, s146 _ _ g3⟩
          · rw [List.getElem?_append_right (by rw [List.length_map]; omega)] at hs
            have hj' : k - (F.map (lessF f x l v)).length = 0 := by
              have : k - (F.map (lessF f x l v)).length < 1 := (List.getElem?_eq_some_iff.mp hs).1
              omega
            rw [hj'] at hs
            have e1 : (l, v) = s := Option.some.inj hs
            subst e1
            rw [List.length_map] at hj'
            exact ⟨tq, rw_, by rw [List.getElem?_append_right (by omega), hl9, hj']; rfl, s15.trans s16 _ _ upd_same, s146 _ _ (s10 _ _ grw)⟩
    · obtain ⟨fd, F, y3, y4, y5, y6, y7, y8, y9, y10, y11, y12, rfl, s3, hF, J⟩ := hQ
      exact ⟨_, rfl, q _ fd F s3 hF J⟩
end
end FL
/-! The turned table on lists: what the law's turned computes, as Turned. Plain Lean, no program. -/
namespace FL
theorem lprod_snoc : ∀ (F : List Lead) (s : Lead), lprod (F ++ [s]) = lprod F * s.2 s.1
  | [], s => by show s.2 s.1 * 1 = 1 * s.2 s.1; rw [Int.mul_one, Int.one_mul]
  | t :: F, s => by
    show t.2 t.1 * lprod (F ++ [s]) = t.2 t.1 * lprod F * s.2 s.1
    rw [lprod_snoc F s, Int.mul_assoc]
theorem lrest_snoc : ∀ (F : List Lead) (s : Lead) (l : Nat), lrest (F ++ [s]) l = lrest F l * (if s.1 = l then 1 else s.2 s.1)
  | [], s, l => by show (if s.1 = l then 1 else s.2 s.1) * 1 = 1 * _; rw [Int.mul_one, Int.one_mul]
  | t :: F, s, l => by
    show (if t.1 = l then 1 else t.2 t.1) * lrest (F ++ [s]) l = (if t.1 = l then 1 else t.2 t.1) * lrest F l * _
    rw [lrest_snoc F s l, Int.mul_assoc]
theorem lsum_snoc : ∀ (F : List Lead) (s : Lead) (g : Lead → Int), lsum (F ++ [s]) g = lsum F g + g s
  | [], s, g => by show g s + 0 = 0 + g s; omega
  | t :: F, s, g => by
    show g t + lsum (F ++ [s]) g = g t + lsum F g + g s
    rw [lsum_snoc F s g, Int.add_assoc]
theorem lsum_zero : ∀ (F : List Lead) (g : Lead → Int), (∀ s, s ∈ F → g s = 0) → lsum F g = 0
  | [], _, _ => rfl
  | t :: F, g, h => by
    show g t + lsum F g = 0
    rw [h t List.mem_cons_self, lsum_zero F g fun s hs => h s (List.mem_cons_of_mem _ hs)]
    rfl
theorem fab_take {F : LF} {i : Nat} {s : Nat × List Int} (h : F[i]? = some s) : fab (F.take (i + 1)) = fab (F.take i) ++ [(s.1, vecL s.2)] := by
  rw [List.take_add_one, h]
  show List.map _ (F.take i ++ [s]) = _
  rw [List.map_append]
  rfl
/-- sums of the bounds -/
def bsum (L : Nat) : Nat → Nat
  | 0 => 0
  | i + 1 => bsum L i + bl L i
def rsum (L j : Nat) : Nat → Nat
  | 0 => 0
  | i + 1 => rsum L j i + (if i = j then 0 else bl L i)
theorem bsum_le {L i : Nat} (hL : L ≤ 3) (hi : i ≤ L) : bsum L i ≤ 227 := by
  match L, i, hL, hi with
  | 0, 0, _, _ => decide
  | 1, 0, _, _ => decide
  | 1, 1, _, _ => decide
  | 2, 0, _, _ => decide
  | 2, 1, _, _ => decide
  | 2, 2, _, _ => decide
  | 3, 0, _, _ => decide
  | 3, 1, _, _ => decide
  | 3, 2, _, _ => decide
  | 3, 3, _, _ => decide
theorem rsum_le {L j : Nat} (hL : L ≤ 3) (hj : j < L) : rsum L j L + bl L j ≤ 227 := by
  match L, j, hL, hj with
  | 1, 0, _, _ => decide
  | 2, 0, _, _ => decide
  | 2, 1, _, _ => decide
  | 3, 0, _, _ => decide
  | 3, 1, _, _ => decide
  | 3, 2, _, _ => decide
theorem rsum_mono {L j : Nat} : ∀ {i k : Nat}, i ≤ k → rsum L j i ≤ rsum L j k
  | i, 0, h => by rw [show i = 0 by omega]; exact Nat.le_refl _
  | i, k + 1, h => by
    by_cases e : i = k + 1
    · rw [e]; exact Nat.le_refl _
    · have := rsum_mono (L := L) (j := j) (show i ≤ k by omega)
      show _ ≤ rsum L j k + _
      omega
section
variable {T : Tab} {m : Nat} {F : LF}
theorem CJ.at_ld (J : CJ T m F) {i : Nat} {s : Nat × List Int} (h : F[i]? = some s) (k : Nat) : (vecL s.2 k).natAbs < 2 ^ bl F.length i := by
  have ok := J.ok i s h
  by_cases hk : k < s.2.length
  · rw [vecL, List.getD_eq_getElem?_getD, List.getElem?_eq_getElem hk]
    exact ok.bd _ (List.getElem_mem hk)
  · rw [vecL, List.getD_eq_getElem?_getD, List.getElem?_eq_none (by omega)]
    exact Nat.two_pow_pos _
theorem CJ.prod_le (J : CJ T m F) : ∀ i, i ≤ F.length → (lprod (fab (F.take i))).natAbs ≤ 2 ^ bsum F.length i
  | 0, _ => by rw [List.take_zero]; exact Nat.le_refl _
  | i + 1, hi => by
    have hs : F[i]? = some F[i] := List.getElem?_eq_getElem (by omega)
    rw [fab_take hs, lprod_snoc, Int.natAbs_mul]
    show _ ≤ 2 ^ (bsum F.length i + bl F.length i)
    rw [Nat.pow_add]
    exact Nat.mul_le_mul (J.prod_le i (by omega)) (Nat.le_of_lt (J.at_ld hs _))
theorem CJ.rest_le (J : CJ T m F) {j : Nat} {t : Nat × List Int} (ht : F[j]? = some t) : ∀ i, i ≤ F.length → (lrest (fab (F.take i)) t.1).natAbs ≤ 2 ^ rsum F.length j i
  | 0, _ => by rw [List.take_zero]; exact Nat.le_refl _
  | i + 1, hi => by
    have hs : F[i]? = some F[i] := List.getElem?_eq_getElem (by omega)
    rw [fab_take hs, lrest_snoc, Int.natAbs_mul]
    show _ ≤ 2 ^ (rsum F.length j i + if i = j then 0 else bl F.length i)
    rw [Nat.pow_add]
    refine Nat.mul_le_mul (J.rest_le ht i (by omega)) ?_
    by_cases e : i = j
    · subst e
      rw [hs] at ht
      have := Option.some.inj ht
      rw [if_pos (show (F[i]).1 = t.1 by rw [this]), if_pos rfl]
      exact Nat.le_refl _
    · rw [if_neg e]
      split
      · exact Nat.one_le_two_pow
      · exact Nat.le_of_lt (J.at_ld hs _)
/-- the column of a free place -/
def colI (F : LF) (n f i : Nat) : List Int := (List.range n).map fun k => (if k = f then lprod (fab F) else 0) + lsum (fab (F.take i)) fun s => if k = s.1 then - (s.2 f * lrest (fab F) s.1) else 0
theorem colI_len (F : LF) (n f i : Nat) : (colI F n f i).length = n := by rw [colI, List.length_map, List.length_range]
theorem CJ.colI_step (J : CJ T m F) {n f i : Nat} {s : Nat × List Int} (h : F[i]? = some s) (hf : f ∉ F.map (·.1)) : (colI F n f i).set s.1 (- vecL s.2 f * lrest (fab F) s.1) = colI F n f (i + 1) := by
  refine List.ext_getElem? fun k => ?_
  have mi := List.mem_of_getElem? h
  by_cases hk : k < n
  · have e1 : (colI F n f (i + 1))[k]? = some ((if k = f then lprod (fab F) else 0) + lsum (fab (F.take (i + 1))) fun s => if k = s.1 then - (s.2 f * lrest (fab F) s.1) else 0) := by
      rw [colI, List.getElem?_map, List.getElem?_range hk]; rfl
    have e0 : (colI F n f i)[k]? = some ((if k = f then lprod (fab F) else 0) + lsum (fab (F.take i)) fun s => if k = s.1 then - (s.2 f * lrest (fab F) s.1) else 0) := by
      rw [colI, List.getElem?_map, List.getElem?_range hk]; rfl
    rw [e1, fab_take h, lsum_snoc]
    by_cases hl : s.1 = k
    · subst hl
      rw [List.getElem?_set_self (by rw [colI_len]; exact hk), if_neg (fun e : s.1 = f => hf (by rw [← e]; exact List.mem_map.mpr ⟨s, mi, rfl⟩)), lsum_zero, if_pos rfl]
      · show some _ = some (0 + (0 + - (vecL s.2 f * lrest (fab F) s.1)))
        rw [Int.neg_mul, Int.zero_add, Int.zero_add]
      · intro t ht
        obtain ⟨t0, ht0, rfl⟩ := List.mem_map.mp ht
        rw [if_neg]
        intro e
        have nd : ((fab (F.take (i + 1))).map (·.1)).Nodup := J.j.nd.sublist (((List.take_sublist _ _).map _).map _)
        rw [fab_take h, List.map_append] at nd
        exact (List.nodup_append.mp nd).2.2 t0.1 (List.mem_map.mpr ⟨_, ht, rfl⟩) s.1 (by simp) e.symm
    · rw [List.getElem?_set_ne hl, e0, if_neg (fun e : k = s.1 => hl e.symm), Int.add_zero]
  · rw [List.getElem?_eq_none (by rw [List.length_set, colI_len]; omega), List.getElem?_eq_none (by rw [colI_len]; omega)]
theorem CJ.prod_lt (J : CJ T m F) (h3 : F.length ≤ 3) : (lprod (fab F)).natAbs < 2 ^ 227 := by
  cases hl : F.length with
  | zero =>
    have : F = [] := List.length_eq_zero_iff.mp hl
    subst this
    show 1 < 2 ^ 227
    decide
  | succ k =>
    have hs : F[k]? = some F[k] := List.getElem?_eq_getElem (by omega)
    have e : fab F = fab (F.take (k + 1)) := by rw [← hl, List.take_length]
    rw [e, fab_take hs, lprod_snoc, Int.natAbs_mul]
    have h1 := J.prod_le k (by omega)
    have h2 := J.at_ld hs (F[k]).1
    have h4 : bsum F.length k + bl F.length k ≤ 227 := bsum_le (i := k + 1) h3 (by omega)
    refine Nat.lt_of_lt_of_le (Nat.mul_lt_mul_of_le_of_lt h1 h2 (Nat.two_pow_pos _)) ?_
    rw [← Nat.pow_add]
    exact Nat.pow_le_pow_right (by decide) h4
theorem CJ.col_bd (J : CJ T m F) (h3 : F.length ≤ 3) {n f : Nat} (hf : f ∉ F.map (·.1)) : ∀ i, i ≤ F.length → ∀ x, x ∈ colI F n f i → x.natAbs < 2 ^ 227
  | 0, _, x, hx => by
    obtain ⟨k, _, rfl⟩ := List.mem_map.mp hx
    rw [List.take_zero]
    show ((if k = f then lprod (fab F) else 0) + 0).natAbs < _
    rw [Int.add_zero]
    split
    · exact J.prod_lt h3
    · decide
  | i + 1, hi, x, hx => by
    have hs : F[i]? = some F[i] := List.getElem?_eq_getElem (by omega)
    rw [← J.colI_step hs hf] at hx
    rcases List.mem_or_eq_of_mem_set hx with h | h
    · exact J.col_bd h3 hf i (by omega) x h
    · rw [h, Int.natAbs_mul, Int.natAbs_neg]
      have h1 := J.rest_le hs F.length (Nat.le_refl _)
      rw [List.take_length] at h1
      have h2 := J.at_ld hs f
      have h4 := rsum_le h3 (show i < F.length by omega)
      refine Nat.lt_of_lt_of_le (Nat.mul_lt_mul_of_lt_of_le h2 h1 (Nat.two_pow_pos _)) ?_
      rw [← Nat.pow_add]
      exact Nat.pow_le_pow_right (by decide) (by omega)
/-- the free places, the columns, the rows turned about -/
def freeL (F : LF) (n : Nat) : List Nat := (List.range n).filter fun k => !decide (k ∈ F.map (·.1))
def colF (F : LF) (n : Nat) (p : Int) (f : Nat) : List Int := leanL (colI F n f F.length) p
def rowsT (F : LF) (n : Nat) (p : Int) : List (List Int) := (List.range n).map fun k => (freeL F n).map fun f => (colF F n p f).getD k 0
theorem freeL_mem {F : LF} {n f : Nat} : f ∈ freeL F n ↔ f < n ∧ f ∉ F.map (·.1) := by
  rw [freeL, List.mem_filter, List.mem_range]
  simp
theorem freeL_len (F : LF) (n : Nat) : (freeL F n).length ≤ n := by
  have := List.length_filter_le (fun k => !decide (k ∈ F.map (·.1))) (List.range n)
  rwa [List.length_range] at this
theorem CJ.colF_ok (J : CJ T m F) (hp : T.p ∈ fields) (h3 : F.length ≤ 3) {n f : Nat} (hf : f ∈ freeL F n) : LOk T.p n 227 (colF F n T.p f) :=
  lean_lok hp (colI_len F n f _) (J.col_bd h3 (freeL_mem.mp hf).2 F.length (Nat.le_refl _)) (by decide)
theorem colF_rel {p : Int} (hp : p ∈ fields) (F : LF) (n f : Nat) : ∃ e : Int, ¬ p ∣ e ∧ ∀ k, k < n → p ∣ e * vecL (colF F n p f) k - vf (fab F) f k := by
  obtain ⟨e, he, hx⟩ := leanF_ok (ns := colI F n f F.length) hp
  refine ⟨e, he, fun k hk => ?_⟩
  have e1 : (colI F n f F.length)[k]? = some (vf (fab F) f k) := by
    rw [colI, List.getElem?_map, List.getElem?_range hk, List.take_length]
    rfl
  have e2 : vecL (colF F n p f) k = leanF (colI F n f F.length) p (vf (fab F) f k) := by
    rw [vecL, colF, leanL, List.getD_eq_getElem?_getD, List.getElem?_map, e1]
    rfl
  rw [e2]
  exact hx _ (List.mem_of_getElem? e1)
theorem rowsT_at {F : LF} {n k : Nat} {p : Int} (hk : k < n) : (rowsT F n p)[k]? = some ((freeL F n).map fun f => (colF F n p f).getD k 0) := by
  rw [rowsT, List.getElem?_map, List.getElem?_range hk]
  rfl
theorem rowsT_len (F : LF) (n : Nat) (p : Int) : (rowsT F n p).length = n := by rw [rowsT, List.length_map, List.length_range]
theorem rowsT_wid {F : LF} {n : Nat} {p : Int} {r : List Int} (h : r ∈ rowsT F n p) : r.length = (freeL F n).length := by
  obtain ⟨k, _, rfl⟩ := List.mem_map.mp h
  rw [List.length_map]
theorem CJ.rowsT_ok (J : CJ T m F) (hp : T.p ∈ fields) (h3 : F.length ≤ 3) {n : Nat} {r : List Int} (h : r ∈ rowsT F n T.p) {x : Int} (hx : x ∈ r) : x.natAbs < 2 ^ 227 ∧ (T.p > 0 → 0 ≤ x ∧ x < T.p) := by
  obtain ⟨k, hk, rfl⟩ := List.mem_map.mp h
  obtain ⟨f, hf, rfl⟩ := List.mem_map.mp hx
  have ok := J.colF_ok hp h3 hf
  have hk := List.mem_range.mp hk
  have hm : (colF F n T.p f).getD k 0 ∈ colF F n T.p f := by
    have : k < (colF F n T.p f).length := by rw [ok.len]; exact hk
    rw [List.getD_eq_getElem?_getD, List.getElem?_eq_getElem this]
    exact List.getElem_mem this
  exact ⟨ok.bd _ hm, fun q => ok.rd q _ hm⟩
end
end FL
/-! The law's turned table. -/
set_option Elab.async false
set_option linter.all false
set_option maxRecDepth 1000000
set_option maxHeartbeats 8000000
namespace FL
open PySem PySem.Spec PyProof.Rows L2
theorem redT_n {f : Int} {W : Nat} {rws : List (List Int)} : (redT f W rws).n = rws.length := by show (rws.map _).length = _; rw [List.length_map]
theorem turned_tab {f : Int} {W g : Nat} {rws : List (List Int)} {F : LF} (hf : f ∈ fields) (J : CJ (redT f W rws) W F) (h3 : F.length ≤ 3) (hw : ∀ r, r ∈ rws → r.length = W) (hg : g < rws.length) :
    Turned (fun k => k < rws.length ∧ k ≠ g) g (cl f (redT f W rws).vec) (cl f (redT f (freeL F rws.length).length (rowsT F rws.length f)).vec) := by
  have hJ := J.j
  rw [redT_n] at hJ
  refine turned_of (r := (redT f W rws).vec) (cs := (freeL F rws.length).map fun f0 => vecL (colF F rws.length f f0)) (fld_mem hf) hJ (fun k i hi => ?_) ⟨fun c hc => ?_, fun f0 h1 h2 => ?_⟩ (fun k hk j => ?_) hg
  · show ((rws.map _).getD k []).getD i 0 = 0
    rw [List.getD_eq_getElem?_getD, List.getD_eq_getElem?_getD, List.getElem?_map]
    cases e : rws[k]? with
    | none => rfl
    | some r =>
      show ((r.map _)[i]?).getD 0 = 0
      rw [List.getElem?_eq_none (by rw [List.length_map, hw r (List.mem_of_getElem? e)]; exact hi)]
      rfl
  · obtain ⟨f0, h0, rfl⟩ := List.mem_map.mp hc
    obtain ⟨h1, h2⟩ := freeL_mem.mp h0
    refine ⟨f0, h1, fun q => h2 ?_, colF_rel hf F rws.length f0⟩
    rw [List.map_map] at q
    exact q
  · refine ⟨_, List.mem_map.mpr ⟨f0, freeL_mem.mpr ⟨h1, fun q => h2 ?_⟩, rfl⟩, colF_rel hf F rws.length f0⟩
    rw [List.map_map]
    exact q
  · show (((rowsT F rws.length f).map _).getD k []).getD j 0 = _
    rw [List.getD_eq_getElem?_getD, List.getD_eq_getElem?_getD, List.getElem?_map, rowsT_at hk]
    show ((((freeL F rws.length).map fun f0 => (colF F rws.length f f0).getD k 0).map fun x => if f > 0 then x % f else x)[j]?).getD 0 = _
    rw [List.getElem?_map, List.getElem?_map, List.getD_eq_getElem?_getD, List.getElem?_map]
    cases e : (freeL F rws.length)[j]? with
    | none => rfl
    | some f0 =>
      have ok : LOk f rws.length 227 (colF F rws.length f f0) := J.colF_ok (n := rws.length) hf h3 (List.mem_of_getElem? e)
      show (if f > 0 then (colF F rws.length f f0).getD k 0 % f else (colF F rws.length f f0).getD k 0) = (colF F rws.length f f0).getD k 0
      by_cases hp : f > 0
      · rw [if_pos hp]
        have hm : (colF F rws.length f f0).getD k 0 ∈ colF F rws.length f f0 := by
          have : k < (colF F rws.length f f0).length := by rw [ok.len]; exact hk
          rw [List.getD_eq_getElem?_getD, List.getElem?_eq_getElem this]
          exact List.getElem_mem this
        obtain ⟨a1, a2⟩ := ok.rd hp _ hm
        exact Int.emod_eq_of_lt a1 a2
      · rw [if_neg hp]
/-- the columns found so far -/
def ColAt (H : Hp) (co : Addr) (fs : List Nat) (g : Nat → List Int) : Prop := ∃ cs : List Addr, H co = some (.lst (cs.map V.ref)) ∧ cs.length = fs.length ∧ ∀ (j : Nat) f0, fs[j]? = some f0 → ∃ c, cs[j]? = some c ∧ c ≠ co ∧ H c = some (.lst ((g f0).map V.int))
theorem ColAt.but {H H' : Hp} {co x : Addr} {fs : List Nat} {g : Nat → List Int} (h : ColAt H co fs g) (n : ∀ o, H x ≠ some o) (e : ∀ p o, H p = some o → p ≠ x → H' p = some o) : ColAt H' co fs g := by
  obtain ⟨cs, h1, h2, h3⟩ := h
  exact ⟨cs, e _ _ h1 (fun q => n _ (q ▸ h1)), h2, fun j f0 hf => let ⟨c, a1, a2, a3⟩ := h3 j f0 hf; ⟨c, a1, a2, e _ _ a3 fun q => n _ (q ▸ a3)⟩⟩
theorem ColAt.same {H H' : Hp} {co : Addr} {fs : List Nat} {g : Nat → List Int} (h : ColAt H co fs g) (s : Same H H') : ColAt H' co fs g := by
  obtain ⟨cs, h1, h2, h3⟩ := h
  exact ⟨cs, s _ _ h1, h2, fun j f0 hf => let ⟨c, a1, a2, a3⟩ := h3 j f0 hf; ⟨c, a1, a2, s _ _ a3⟩⟩
section
variable (P : Program) (w : World) {K : PySem.W.Frag} {mg : Str → Option Value} (base : Heap) {a : At}
def sp_turned (K : PySem.W.Frag) : Sp := fun vs H Q _ => ∃ (pp rp : Addr) (rws : List (List Int)) (W : Nat) (f : Int), vs = [.ref pp] ∧ PartsAt H pp rp rws W f ∧ ∀ H' pp' rp' F, Same H H' → H' pp' = some (.lst [.ref rp', .int f]) → RwsAt H' rp' (rowsT F rws.length f) → CJ (redT f W rws) W F → Q (.ref pp') H'
theorem ok__law_turned (T : Tx K mg a) : Fn P w K mg base 5 a._law_turned (sp_turned K) := by
  refine fn_d T.F__law_turned sc__law_turned (fun _ _ _ _ _ _ us hl => match us, hl with | [_], _ => rfl) (fun vs H Q E h => ?_) fun cdv A outer s H vs Q E hr h => ?_
  · obtain ⟨pp, rp, rws, W, f, rfl, _⟩ := h
    rfl
  · obtain ⟨pp, rp, rws, W, f, rfl, hP, q⟩ := h
    refine ⟨_, pss_cons (ps_par (i := 1) (j := 2) rfl sc__law_turned.nd rfl rfl (by decide) rfl rfl (pa_cons (pe_call (ok__law_columns P w base T).ok (hr.mono (by decide)) (by rfl) T.g__law_columns (ok__law_columns P w base T).kp (ok__law_columns P w base T).b .nil pass0 (pa_cons (pv 0) pa_nil)) (pa_cons (pe_callB call_len_seq (by rfl) T.b_len PySem.boot_len (pa_cons (pe_ix ix_list (pv 0) pe_int (fun _ _ => rfl)) pa_nil)) pa_nil)) (by rfl))
        (pss_cons (ps_asg (pe_tup (pa_cons (pe_lc (own := [("_law_lead", 6), ("_law_row", 7)]) rfl sc__law_turned.nd (pi_list (pv 1)) (blkOk_by (N := ["_law_parts", "_law_steps", "_law_many", "_law_leads", "_law_columns_here", "_law_product", "_law_lead", "_law_row", "_law_free", "_law_column", "_law_rest", "_law_other", "_law_known", "_law_k"]) (sc := defScope s__law_turned) (by decide +kernel)) (fun _ _ _ _ _ => (pg_two (K := K) 6 7 sc__law_turned.nd)) (fun _ _ _ _ _ => pts_nil) (fun _ _ _ _ _ => (pv 6))) (pa_cons (pe_lst pa_nil) pa_nil))) (pg_tup rfl (pgs_cons (pg_name (i := 3) sc__law_turned.nd rfl (by first | exact Or.inl rfl | exact Or.inr rfl)) (pgs_cons (pg_name (i := 4) sc__law_turned.nd rfl (by first | exact Or.inl rfl | exact Or.inr rfl)) pgs_nil))))
        (pss_cons (ps_set (i := 5) sc__law_turned.nd rfl (by first | exact Or.inl rfl | exact Or.inr rfl) pe_int)
        (pss_cons (ps_for PassesOwn.never rfl (pi_list (pv 1)) (pg_tup rfl (pgs_cons (pg_name (i := 6) sc__law_turned.nd rfl (by first | exact Or.inl rfl | exact Or.inr rfl)) (pgs_cons (pg_name (i := 7) sc__law_turned.nd rfl (by first | exact Or.inl rfl | exact Or.inr rfl)) pgs_nil))) (pss_one (ps_set (i := 5) sc__law_turned.nd rfl (by first | exact Or.inl rfl | exact Or.inr rfl) (pe_op op_mulW (pv 5) (pe_ix ix_list (pv 7) (pv 6) (fun _ _ => rfl))))))
        (pss_cons (ps_for PassesOwn.never rfl (pi_range1 (by rfl) T.b_range (pa_cons (pv 2) pa_nil)) (pg_name (i := 8) sc__law_turned.nd rfl (by first | exact Or.inl rfl | exact Or.inr rfl)) (pss_one (ps_if (pt_cmpR op_notIn_seq (pv 8) (pv 3) (by with_unfolding_all rfl)) (pss_cons (ps_setLc (i := 9) (own := [("_law_k", 13)]) rfl sc__law_turned.nd rfl rfl (sw_true rfl rfl rfl (by decide +kernel)) (pi_range1 (by rfl) T.b_range (pa_cons (pv 2) pa_nil)) (blkOk_by (N := ["_law_parts", "_law_steps", "_law_many", "_law_leads", "_law_columns_here", "_law_product", "_law_lead", "_law_row", "_law_free", "_law_column", "_law_rest", "_law_other", "_law_known", "_law_k"]) (sc := defScope s__law_turned) (by decide +kernel)) (fun _ _ _ _ _ => (pg_name (i := 13) sc__law_turned.nd rfl (by first | exact Or.inl rfl | exact Or.inr rfl))) (fun _ _ _ _ _ => pts_nil) (fun _ _ _ _ _ => (pe_op op_mulW (pv 5) (pe_callTy call_int1 (by rfl) T.b_int (by decide +kernel) (pa_cons (pe_cmpR op_eq (pv 13) (pv 8) (nomark _)) pa_nil)))))
        (pss_cons (ps_for PassesOwn.never rfl (pi_list (pv 1)) (pg_tup rfl (pgs_cons (pg_name (i := 6) sc__law_turned.nd rfl (by first | exact Or.inl rfl | exact Or.inr rfl)) (pgs_cons (pg_name (i := 7) sc__law_turned.nd rfl (by first | exact Or.inl rfl | exact Or.inr rfl)) pgs_nil))) (pss_cons (ps_set (i := 10) sc__law_turned.nd rfl (by first | exact Or.inl rfl | exact Or.inr rfl) pe_int)
        (pss_cons (ps_for PassesOwn.never rfl (pi_list (pv 1)) (pg_tup rfl (pgs_cons (pg_name (i := 11) sc__law_turned.nd rfl (by first | exact Or.inl rfl | exact Or.inr rfl)) (pgs_cons (pg_name (i := 12) sc__law_turned.nd rfl (by first | exact Or.inl rfl | exact Or.inr rfl)) pgs_nil))) (pss_one (ps_set (i := 10) sc__law_turned.nd rfl (by first | exact Or.inl rfl | exact Or.inr rfl) (pe_op op_mulW (pv 10) (pe_ifExp (pt_cmpR op_ne (pv 11) (pv 6) (nomark _)) (pe_ix ix_list (pv 12) (pv 11) (fun _ _ => rfl)) pe_int)))))
        (pss_one (ps_asg (pe_op op_mulW (pe_un un_neg (pe_ix ix_list (pv 7) (pv 8) (fun _ _ => rfl))) (pv 10)) (pg_sub (pv 9) (pv 6) set_list))))))
        (pss_one (ps_expr (pe_bm PySem.F.plainAttrs_list PySem.F.slot_list_append PySem.F.type_list_append mt_append (pv 4) (pa_cons (pe_call (ok__law_lean P w base T).ok (hr.mono (by decide)) (by rfl) T.g__law_lean (ok__law_lean P w base T).kp (ok__law_lean P w base T).b .nil pass0 (pa_cons (pv 9) (pa_cons (pe_ix ix_list (pv 0) pe_int (fun _ _ => rfl)) pa_nil))) pa_nil)))))) pss_nil)))
        (pss_one (ps_ret (pe_lst (pa_cons (pe_lc (own := [("_law_k", 13)]) rfl sc__law_turned.nd (pi_range1 (by rfl) T.b_range (pa_cons (pv 2) pa_nil)) (blkOk_by (N := ["_law_parts", "_law_steps", "_law_many", "_law_leads", "_law_columns_here", "_law_product", "_law_lead", "_law_row", "_law_free", "_law_column", "_law_rest", "_law_other", "_law_known", "_law_k"]) (sc := defScope s__law_turned) (by decide +kernel)) (fun _ _ _ _ _ => (pg_name (i := 13) sc__law_turned.nd rfl (by first | exact Or.inl rfl | exact Or.inr rfl))) (fun _ _ _ _ _ => pts_nil) (fun _ _ _ _ _ => (pe_lc (own := [("_law_column", 9)]) rfl sc__law_turned.nd (pi_listK (K := K) (pv 4)) (blkOk_by (by rfl)) (fun _ _ _ _ _ => (pg_name (i := 9) sc__law_turned.nd rfl (by first | exact Or.inl rfl | exact Or.inr rfl))) (fun _ _ _ _ _ => pts_nil) (fun _ _ _ _ _ => (pe_ix (ix_listK (K := K)) (pv 9) (pv 13) (fun _ _ => rfl)))))) (pa_cons (pe_ix ix_list (pv 0) pe_int (fun _ _ => rfl)) pa_nil))))))))), ?_⟩
    have e0 : atI [V.ref rp, V.int f] (0 : Int) = some (.ref rp) := at_nat (j := 0) rfl
    have e1 : atI [V.ref rp, V.int f] (1 : Int) = some (.int f) := at_nat (j := 1) rfl
    obtain ⟨ras, r1, r2, r3⟩ := id hP.rp
    have lras : (ras.map V.ref).length = rws.length := by rw [List.length_map]; exact r2
    have n6 := hP.n6
    have w3 := hP.w3
    have fnn := fld_nn hP.fp
    refine ⟨_, rfl, pp, rp, rws, W, f, rfl, hP, fun H1 st F s1 hF J => ?_⟩
    have F3 : F.length ≤ 3 := Nat.le_trans J.le w3
    obtain ⟨qs, f1, f2, f3⟩ := id hF
    have eQ : (qs.map V.ref).length = F.length := by rw [List.length_map]; exact f2
    refine ⟨_, rfl, pp, _, _, _, rfl, rfl, SqL.of (s1 _ _ hP.pp), e0, rp, _, rfl, .inl (SqL.of (s1 _ _ r1)), _, _, rfl, ?_⟩
    rw [lras]
    -- the leads
    refine ⟨_, rfl, st, rfl, ⟨_, SqL.of f1⟩, fun ld hld => ?_⟩
    refine lc_w (walk_list (xs := qs.map V.ref)) (fun j => F[j]?.bind fun s => some (.int (s.1 : Int))) hld (by rw [eQ]; omega) (fun H5 s5 => SqL.of (s5 _ _ f1)) (fun j z H5 H6 hj s5 hy take skip => ?_) fun H2 s2 hld2 => ?_
    · obtain ⟨rfl, hz⟩ := hy
      obtain ⟨qj, hqj, rfl⟩ := ref_at hz
      have hjF : j < F.length := by rw [← f2]; exact (List.getElem?_eq_some_iff.mp hqj).1
      obtain ⟨q0, ra, g1, g2, g3⟩ := f3 j F[j] (List.getElem?_eq_getElem hjF)
      rw [hqj] at g1
      obtain rfl : qj = q0 := Option.some.inj g1
      exact ⟨qj, _, rfl, SqT.of (s5 _ _ g2), rfl, _, _, rfl, _, _, rfl, rfl, rfl, _, rfl, take _ _ (by rw [List.getElem?_eq_getElem hjF]; rfl) (Same.refl _)⟩
    rw [eQ, range_fm F fun s => some (V.int (s.1 : Int)), fm_some] at hld2
    have hld3 : H2 ld = some (.lst (ixs (F.map (·.1)))) := by rw [hld2, ixs, List.map_map]; rfl
    refine ⟨Nat.zero_le _, fun co hco => ⟨(by show 2 ≤ sizeLine; decide), fun tp htp => ⟨tp, _, rfl, SqT.of upd_same, rfl, _, _, rfl, _, _, rfl, rfl, ?_⟩⟩⟩
    have s3 := (same_upd (o := .lst []) hco).trans (same_upd (o := .tup [.ref ld, .ref co]) htp)
    have gco : upd (upd H2 co (.lst [])) tp (.tup [.ref ld, .ref co]) co = some (.lst []) := same_upd htp _ _ upd_same
    have col0 : ColAt (upd (upd H2 co (.lst [])) tp (.tup [.ref ld, .ref co])) co [] (colF F rws.length f) := ⟨[], gco, rfl, fun j f0 h => by simp at h⟩
    generalize upd (upd H2 co (.lst [])) tp (.tup [.ref ld, .ref co]) = H3 at *
    have s13 := s2.trans s3
    refine ⟨_, rfl, st, rfl, ⟨_, SqL.of (s13 _ _ f1)⟩, ?_⟩
    -- a step as it stands
    have stp : ∀ {H' : Hp} {j : Nat} {z : V}, Same H1 H' → (qs.map V.ref)[j]? = some z → ∃ s q ra, z = .ref q ∧ F[j]? = some s ∧ H' q = some (.tup [.int (s.1 : Int), .ref ra]) ∧ H' ra = some (.lst (s.2.map V.int)) := fun {H' j z} sm hz => by
      obtain ⟨qj, hqj, rfl⟩ := ref_at hz
      have hjF : j < F.length := by rw [← f2]; exact (List.getElem?_eq_some_iff.mp hqj).1
      obtain ⟨q0, ra, g1, g2, g3⟩ := f3 j F[j] (List.getElem?_eq_getElem hjF)
      rw [hqj] at g1
      obtain rfl : qj = q0 := Option.some.inj g1
      exact ⟨_, qj, ra, rfl, List.getElem?_eq_getElem hjF, sm _ _ g2, sm _ _ g3⟩
    have ldx : ∀ {j : Nat} {s : Nat × List Int}, F[j]? = some s → s.2[s.1]? = some (vecL s.2 s.1) ∧ ∀ k, k < rws.length → s.2[k]? = some (vecL s.2 k) := fun {j s} hs => by
      have ok := J.ok j s hs
      have ol : s.2.length = rws.length := by rw [ok.len, redT_n]
      have all : ∀ k, k < rws.length → s.2[k]? = some (vecL s.2 k) := fun k hk => by rw [vecL, List.getD_eq_getElem?_getD, List.getElem?_eq_getElem (show k < s.2.length by omega)]; rfl
      have lt : s.1 < rws.length := by have := J.j.lt _ (List.mem_of_getElem? (fab_at hs)); rwa [redT_n] at this
      exact ⟨all _ lt, all⟩
    have ldlt : ∀ {j : Nat} {s : Nat × List Int}, F[j]? = some s → s.1 < rws.length := fun {j s} hs => by have := J.j.lt _ (List.mem_of_getElem? (fab_at hs)); rwa [redT_n] at this
    refine for_it (walk_list (xs := qs.map V.ref)) (fun i σ H' => H' = H3 ∧ ∃ y6 y7 y8 y9 y10 y11 y12 y13 : Option V, σ = [some (.ref pp), some (.ref st), some (.int (rws.length : Nat)), some (.ref ld), some (.ref co), some (.int (lprod (fab (F.take i)))), y6, y7, y8, y9, y10, y11, y12, y13])
      ⟨rfl, none, none, none, none, none, none, none, none, rfl⟩ (fun i σ H' _ h => by rw [h.1]; exact SqL.of (s13 _ _ f1)) (fun i z σ H5 H6 hi hQ hy => ?_) fun σ H5 hQ => ?_
    · obtain ⟨rfl, y6, y7, y8, y9, y10, y11, y12, y13, rfl⟩ := hQ
      obtain ⟨rfl, hz⟩ := hy
      obtain ⟨s, qj, ra, rfl, hs, g2, g3⟩ := stp s13 hz
      have hiF : i < F.length := (List.getElem?_eq_some_iff.mp hs).1
      have b1 := J.prod_le i (Nat.le_of_lt hiF)
      have b2 := bsum_le F3 (Nat.le_of_lt hiF)
      have b3 := J.at_ld hs s.1
      have b4 : bl F.length i ≤ 227 := by have := rsum_le F3 hiF; omega
      have b5 : (lprod (fab (F.take i))).natAbs < 2 ^ 228 := Nat.lt_of_le_of_lt b1 (Nat.lt_of_le_of_lt (Nat.pow_le_pow_right (by decide) b2) (Nat.pow_lt_pow_right (by decide) (by decide)))
      have ep : lprod (fab (F.take (i + 1))) = lprod (fab (F.take i)) * vecL s.2 s.1 := by rw [fab_take hs, lprod_snoc]
      refine ⟨qj, _, rfl, SqT.of g2, rfl, _, _, rfl, _, _, rfl, rfl, ?_⟩
      refine ⟨_, rfl, _, rfl, _, rfl, ra, _, _, _, rfl, rfl, SqL.of g3, at_nat (at_map V.int (ldx hs).1), _, _, rfl, rfl, wide_mul b5 (b := 228) (Nat.lt_of_lt_of_le b3 (Nat.pow_le_pow_right (by decide) (by omega))) (by decide) (by decide) (by decide), rfl, some (.int (s.1 : Int)), some (.ref ra), y8, y9, y10, y11, y12, y13, by rw [ep]; rfl⟩
    obtain ⟨rfl, y6, y7, y8, y9, y10, y11, y12, y13, rfl⟩ := hQ
    rw [eQ, List.take_length]
    refine ⟨_, rfl, ((rws.length : Nat) : Int), rfl, by omega, by omega, ?_⟩
    have nco1 : H1 co = none := s2.free hco
    refine for_it (walk_range (lo := 0) (n := rws.length)) (fun i σ H' => ∃ y6 y7 y8 y9 y10 y11 y12 y13 : Option V, σ = [some (.ref pp), some (.ref st), some (.int (rws.length : Nat)), some (.ref ld), some (.ref co), some (.int (lprod (fab F))), y6, y7, y8, y9, y10, y11, y12, y13] ∧ Same H1 H' ∧ H' ld = some (.lst (ixs (F.map (·.1)))) ∧
      ColAt H' co ((List.range i).filter fun k => !decide (k ∈ F.map (·.1))) (colF F rws.length f)) ⟨y6, y7, y8, y9, y10, y11, y12, y13, rfl, s13, s3 _ _ hld3, col0⟩ (fun _ _ _ _ _ => trivial) (fun i z σ H6 H7 hi hQ hy => ?_) fun σ H6 hQ => ?_
    · obtain ⟨y6, y7, y8, y9, y10, y11, y12, y13, rfl, s6, hl6, hc6⟩ := hQ
      obtain ⟨rfl, hz⟩ := hy
      obtain rfl : z = .int (i : Int) := by rw [hz]; show V.int (0 + (i : Int)) = _; rw [Int.zero_add]
      have hi : i < rws.length := hi
      refine ⟨_, rfl, _, rfl, ld, _, rfl, .inl (SqL.of hl6), rfl, flat_ixs _, _, rfl, ?_⟩
      show if (!inV (.int (i : Int)) (ixs (F.map (·.1)))) = true then _ else _
      rw [in_ixs]
      by_cases hin : i ∈ F.map (·.1)
      · refine itF (by rw [decide_eq_true hin]; rfl) ⟨_, _, _, _, _, _, _, _, rfl, s6, hl6, ?_⟩
        rw [List.range_succ, List.filter_append, List.filter_cons, if_neg (by rw [decide_eq_true hin]; decide), List.filter_nil, List.append_nil]
        exact hc6
      refine itT (by rw [decide_eq_false hin]; rfl) ?_
      -- the column
      refine ⟨_, rfl, ((rws.length : Nat) : Int), rfl, by omega, by omega, fun cl hcl => ?_⟩
      have pl := J.prod_lt F3
      refine lc_w (walk_range (lo := 0) (n := rws.length)) (fun j => some (.int ((if j = i then lprod (fab F) else 0) + 0))) hcl (by omega) (fun _ _ => trivial) (fun j z H8 H9 hj s8 hy take skip => ?_) fun H8 s8 hcl8 => ?_
      · obtain ⟨rfl, hz⟩ := hy
        obtain rfl : z = .int (j : Int) := by rw [hz]; show V.int (0 + (j : Int)) = _; rw [Int.zero_add]
        refine ⟨rfl, _, rfl, _, rfl, _, rfl, rfl, .inr ⟨_, rfl, lprod (fab F), _, rfl, rfl, wide_mul (a := 227) (b := 1) pl (by split <;> decide) (by decide) (by decide) (by decide), take _ _ ?_ (Same.refl _)⟩⟩
        show some _ = some _
        by_cases e : j = i
        · subst e
          rw [if_pos rfl, if_pos (decide_eq_true rfl)]
          show some (V.int (lprod (fab F) + 0)) = some (V.int (lprod (fab F) * 1))
          rw [Int.mul_one, Int.add_zero]
        · rw [if_neg e, if_neg (by rw [dec_int]; simp; omega)]
          show some (V.int (0 + 0)) = some (V.int (lprod (fab F) * 0))
          rw [Int.mul_zero, Int.add_zero]
      have hcl9 : H8 cl = some (.lst ((colI F rws.length i 0).map V.int)) := by
        rw [hcl8, fm_range, colI, List.map_map, List.take_zero]
        rfl
      have s68 := s6.trans s8
      have ncl1 : H1 cl = none := s6.free hcl
      have sm : ∀ {H' : Hp}, But cl H8 H' → Same H1 H' := fun {H'} b x o e => b _ _ (s68 _ _ e) (ne_of_none e ncl1)
      refine ⟨_, rfl, st, rfl, ⟨_, SqL.of (s68 _ _ f1)⟩, ?_⟩
      refine for_it (walk_list (xs := qs.map V.ref)) (fun j σ H' => ∃ y6 y7 y10 y11 y12 y13 : Option V, σ = [some (.ref pp), some (.ref st), some (.int (rws.length : Nat)), some (.ref ld), some (.ref co), some (.int (lprod (fab F))), y6, y7, some (.int (i : Int)), some (.ref cl), y10, y11, y12, y13] ∧ But cl H8 H' ∧ H' cl = some (.lst ((colI F rws.length i j).map V.int)))
        ⟨y6, y7, y10, y11, y12, y13, rfl, fun x o e _ => e, hcl9⟩ (fun j σ H' _ h => ?_) (fun j z σ H9 H10 hj hQ hy => ?_) fun σ H9 hQ => ?_
      · obtain ⟨_, _, _, _, _, _, rfl, b, _⟩ := h
        exact SqL.of (sm b _ _ f1)
      · obtain ⟨y6, y7, y10, y11, y12, y13, rfl, b9, hcl10⟩ := hQ
        obtain ⟨rfl, hz⟩ := hy
        obtain ⟨s, qj, ra, rfl, hs, g2, g3⟩ := stp (sm b9) hz
        have hjF : j < F.length := (List.getElem?_eq_some_iff.mp hs).1
        have hrs := rsum_le F3 hjF
        refine ⟨qj, _, rfl, SqT.of g2, rfl, _, _, rfl, _, _, rfl, rfl, ?_⟩
        refine ⟨_, rfl, st, rfl, ⟨_, SqL.of (sm b9 _ _ f1)⟩, ?_⟩
        refine for_it (walk_list (xs := qs.map V.ref)) (fun k σ H' => H' = H10 ∧ ∃ y11 y12 y13 : Option V, σ = [some (.ref pp), some (.ref st), some (.int (rws.length : Nat)), some (.ref ld), some (.ref co), some (.int (lprod (fab F))), some (.int (s.1 : Int)), some (.ref ra), some (.int (i : Int)), some (.ref cl), some (.int (lrest (fab (F.take k)) s.1)), y11, y12, y13])
          ⟨rfl, y11, y12, y13, rfl⟩ (fun k σ H' _ h => by rw [h.1]; exact SqL.of (sm b9 _ _ f1)) (fun k z σ H11 H12 hk hQ hy => ?_) fun σ H11 hQ => ?_
        · obtain ⟨rfl, y11, y12, y13, rfl⟩ := hQ
          obtain ⟨rfl, hz2⟩ := hy
          obtain ⟨s2', qk, rk, rfl, hs2, h2, h3⟩ := stp (sm b9) hz2
          have hkF : k < F.length := (List.getElem?_eq_some_iff.mp hs2).1
          have b1 := J.rest_le hs k (Nat.le_of_lt hkF)
          have b2 := rsum_mono (L := F.length) (j := j) (Nat.le_of_lt hkF)
          have b5 : (lrest (fab (F.take k)) s.1).natAbs < 2 ^ 228 := Nat.lt_of_le_of_lt b1 (Nat.lt_of_le_of_lt (Nat.pow_le_pow_right (by decide) (show _ ≤ 227 by omega)) (Nat.pow_lt_pow_right (by decide) (by decide)))
          have b3 := J.at_ld hs2 s2'.1
          have b4 : bl F.length k ≤ 227 := by have := rsum_le F3 hkF; omega
          have ep : lrest (fab (F.take (k + 1))) s.1 = lrest (fab (F.take k)) s.1 * (if s2'.1 = s.1 then 1 else vecL s2'.2 s2'.1) := by rw [fab_take hs2, lrest_snoc]
          refine ⟨qk, _, rfl, SqT.of h2, rfl, _, _, rfl, _, _, rfl, rfl, ?_⟩
          refine ⟨_, rfl, _, rfl, _, rfl, rfl, _, rfl, ?_⟩
          by_cases e : s2'.1 = s.1
          · refine itF (by rw [dec_int, e]; simp) ?_
            refine ⟨_, _, rfl, rfl, wide_mul b5 (b := 1) (by decide) (by decide) (by decide) (by decide), rfl, some (.int (s2'.1 : Int)), some (.ref rk), y13, by rw [ep, if_pos e]; rfl⟩
          · refine itT (by rw [dec_int]; simp; omega) ?_
            refine ⟨_, rfl, _, rfl, rk, _, _, _, rfl, rfl, SqL.of h3, at_nat (at_map V.int (ldx hs2).1), ?_⟩
            refine ⟨_, _, rfl, rfl, wide_mul b5 (b := 228) (Nat.lt_of_lt_of_le b3 (Nat.pow_le_pow_right (by decide) (by omega))) (by decide) (by decide) (by decide), rfl, some (.int (s2'.1 : Int)), some (.ref rk), y13, by rw [ep, if_neg e]; rfl⟩
        · obtain ⟨rfl, y11, y12, y13, rfl⟩ := hQ
          rw [eQ, List.take_length]
          have b1 := J.rest_le hs F.length (Nat.le_refl _)
          rw [List.take_length] at b1
          have b5 : (lrest (fab F) s.1).natAbs < 2 ^ 228 := Nat.lt_of_le_of_lt b1 (Nat.lt_of_le_of_lt (Nat.pow_le_pow_right (by decide) (show _ ≤ 227 by omega)) (Nat.pow_lt_pow_right (by decide) (by decide)))
          have b3 := J.at_ld hs i
          have hlen : (((colI F rws.length i j).map V.int)).length = rws.length := by rw [List.length_map, colI_len]
          refine ⟨_, rfl, _, rfl, ra, _, _, _, rfl, rfl, SqL.of g3, at_nat (at_map V.int ((ldx hs).2 i hi)), _, rfl, _, rfl, _, _, rfl, rfl, wide_mul (a := 228) (b := 228) (by rw [Int.natAbs_neg]; exact Nat.lt_of_lt_of_le b3 (Nat.pow_le_pow_right (by decide) (by omega))) b5 (by decide) (by decide) (by decide), ?_⟩
          refine ⟨_, rfl, _, rfl, cl, _, (s.1 : Int), s.1, rfl, rfl, hcl10, by rw [hlen]; exact Evl.ixN_nat (ldlt hs), ?_⟩
          refine ⟨_, _, _, _, _, _, rfl, fun x o e n => by rw [upd_ne n]; exact b9 x o e n, ?_⟩
          rw [upd_same, ← J.colI_step hs hin, List.map_set]
      · obtain ⟨y6, y7, y10, y11, y12, y13, rfl, b9, hcl10⟩ := hQ
        rw [eQ] at hcl10
        have ok := J.colF_ok hP.fp F3 (freeL_mem.mpr ⟨hi, hin⟩)
        have sm9 := sm b9
        have hld9 : H9 ld = some (.lst (ixs (F.map (·.1)))) := b9 _ _ (s8 _ _ hl6) (ne_of_none hl6 hcl)
        have hc9 : ColAt H9 co ((List.range i).filter fun k => !decide (k ∈ F.map (·.1))) (colF F rws.length f) := hc6.but (x := cl) (fun o e => by rw [e] at hcl; cases hcl) fun p o e n => b9 _ _ (s8 _ _ e) n
        refine ⟨_, rfl, .inl ⟨rfl, _, SqL.of hc9.choose_spec.1⟩, _, rfl, _, rfl, pp, _, _, _, rfl, rfl, SqL.of (sm9 _ _ (s1 _ _ hP.pp)), e1, ?_⟩
        refine ⟨cl, colI F rws.length i F.length, f, rfl, hcl10, fnn.1, by rw [colI_len]; omega, fun x hx => Nat.lt_of_lt_of_le (J.col_bd F3 hin F.length (Nat.le_refl _) x hx) (Nat.pow_le_pow_right (by decide) (by decide)), fun H10 q10 s10 h10 => ?_⟩
        have hc10 := hc9.same s10
        obtain ⟨cs, c1, c2, c3⟩ := id hc10
        have ng : colF F rws.length f i ≠ [] := fun e => by have := ok.len; rw [show colF F rws.length (redT f W rws).p i = colF F rws.length f i from rfl, e] at this; simp at this; omega
        have nq : q10 ≠ co := fun e => by
          rw [e, c1] at h10
          have h5 : cs.map V.ref = (colF F rws.length f i).map V.int := by injection h10 with h10; injection h10
          cases hq : colF F rws.length f i with
          | nil => exact ng hq
          | cons y ys =>
            rw [hq] at h5
            cases cs with
            | nil => cases h5
            | cons c cs => cases h5
        have csl : cs.length ≤ 6 := by
          rw [c2]
          have := List.length_filter_le (fun k => !decide (k ∈ F.map (·.1))) (List.range i)
          rw [List.length_range] at this
          omega
        refine ⟨co, _, _, rfl, rfl, c1, by rw [List.length_map]; exact Nat.lt_of_le_of_lt csl (by decide), ?_⟩
        refine ⟨_, _, _, _, _, _, _, _, rfl, same_chg (sm9.trans s10) nco1, ?_, ?_⟩
        · rw [upd_ne (fun e : ld = co => by rw [e, hco] at hld3; cases hld3)]
          exact s10 _ _ hld9
        · rw [List.range_succ, List.filter_append, List.filter_cons, if_pos (by rw [decide_eq_false hin]; rfl), List.filter_nil]
          refine ⟨cs ++ [q10], by rw [upd_same, List.map_append]; rfl, by rw [List.length_append, List.length_append, c2]; rfl, fun k f0 hk => ?_⟩
          by_cases hk2 : k < ((List.range i).filter fun k => !decide (k ∈ F.map (·.1))).length
          · rw [List.getElem?_append_left hk2] at hk
            obtain ⟨c, a1, a2, a3⟩ := c3 k f0 hk
            exact ⟨c, by rw [List.getElem?_append_left (by omega)]; exact a1, a2, by rw [upd_ne a2]; exact a3⟩
          · rw [List.getElem?_append_right (by omega)] at hk
            have hj' : k - ((List.range i).filter fun k => !decide (k ∈ F.map (·.1))).length = 0 := by
              have : k - ((List.range i).filter fun k => !decide (k ∈ F.map (·.1))).length < 1 := (List.getElem?_eq_some_iff.mp hk).1
              omega
            rw [hj'] at hk
            obtain rfl : i = f0 := Option.some.inj hk
            exact ⟨q10, by rw [List.getElem?_append_right (by omega), c2, hj']; rfl, nq, by rw [upd_ne nq]; exact h10⟩
    · obtain ⟨y6, y7, y8, y9, y10, y11, y12, y13, rfl, s6, hl6, hc6⟩ := hQ
      have hc7 : ColAt H6 co (freeL F rws.length) (colF F rws.length f) := hc6
      obtain ⟨cs, c1, c2, c3⟩ := id hc7
      have cl6 := freeL_len F rws.length
      have lcs : (cs.map V.ref).length = (freeL F rws.length).length := by rw [List.length_map, c2]
      refine ⟨_, rfl, ((rws.length : Nat) : Int), rfl, by omega, by omega, fun D hD => ?_⟩
      refine lc_refs (walk_range (lo := 0) (n := rws.length)) (fun k c H => H c = some (.lst (((freeL F rws.length).map fun f0 => (colF F rws.length f f0).getD k 0).map V.int))) hD (by omega) (fun _ _ => trivial) (fun j c H H' cs h n _ e => e _ _ n h) (fun k z H7 H8 hk s7 hy _ take => ?_) fun H7 cs7 s7 hD7 hl7 nd7 hcs7 => ?_
      · obtain ⟨rfl, hz⟩ := hy
        obtain rfl : z = .int (k : Int) := by rw [hz]; show V.int (0 + (k : Int)) = _; rw [Int.zero_add]
        refine ⟨rfl, _, rfl, co, rfl, ⟨_, SqL.of (s7 _ _ c1)⟩, fun D2 hD2 => ?_⟩
        refine lc_w (walk_list (xs := cs.map V.ref)) (fun j => (freeL F rws.length)[j]?.bind fun f0 => some (.int ((colF F rws.length f f0).getD k 0))) hD2 (by rw [lcs]; omega) (fun H9 s9 => SqL.of (s9 _ _ (s7 _ _ c1))) (fun j z H9 H10 hj s9 hy take2 skip2 => ?_) fun H9 s9 hD9 => ?_
        · obtain ⟨rfl, hz⟩ := hy
          obtain ⟨c, hc, rfl⟩ := ref_at hz
          have hjf : j < (freeL F rws.length).length := by rw [← c2]; exact (List.getElem?_eq_some_iff.mp hc).1
          have hfj : (freeL F rws.length)[j]? = some (freeL F rws.length)[j] := List.getElem?_eq_getElem hjf
          obtain ⟨c', a1, a2, a3⟩ := c3 j _ hfj
          rw [hc] at a1
          obtain rfl : c = c' := Option.some.inj a1
          have ok : LOk f rws.length 227 (colF F rws.length f (freeL F rws.length)[j]) := J.colF_ok hP.fp F3 (List.getElem_mem hjf)
          have hx : (colF F rws.length f (freeL F rws.length)[j])[k]? = some ((colF F rws.length f (freeL F rws.length)[j]).getD k 0) := by
            have : k < (colF F rws.length f (freeL F rws.length)[j]).length := by rw [ok.len]; exact hk
            rw [List.getD_eq_getElem?_getD, List.getElem?_eq_getElem this]
            rfl
          refine ⟨rfl, _, rfl, _, rfl, c, _, _, _, rfl, rfl, SqL.of (s9 _ _ (s7 _ _ a3)), at_nat (at_map V.int hx), take2 _ _ (by rw [hfj]; rfl) (Same.refl _)⟩
        · rw [lcs, range_fm (freeL F rws.length) fun f0 => some (V.int ((colF F rws.length f f0).getD k 0)), fm_some] at hD9
          exact take D2 _ (by rw [hD9, List.map_map]; rfl) hD2 ⟨_, hD9⟩ s9
      · refine ⟨_, rfl, pp, _, _, _, rfl, rfl, SqL.of (s7 _ _ (s6 _ _ (s1 _ _ hP.pp))), e1, (by show 2 ≤ sizeLine; decide), fun pp' hpp' => ?_⟩
        have s8 := same_upd (o := .lst [.ref D, .int f]) hpp'
        refine q _ pp' D F (s1.trans (s6.trans (s7.trans s8))) upd_same ⟨cs7, s8 _ _ hD7, by rw [hl7, rowsT_len], fun k r hr => ?_⟩ J
        have hk : k < rws.length := by rw [← rowsT_len F rws.length f]; exact (List.getElem?_eq_some_iff.mp hr).1
        rw [rowsT_at hk] at hr
        obtain rfl := Option.some.inj hr
        obtain ⟨a1, _⟩ := hcs7 k cs7[k] (List.getElem?_eq_getElem (by omega))
        exact ⟨cs7[k], List.getElem?_eq_getElem (by omega), s8 _ _ a1⟩
end
end FL
/-! The law's dict of the hands turned about (a key of it is None). -/
set_option Elab.async false
set_option linter.all false
set_option maxRecDepth 100000
set_option maxHeartbeats 4000000
namespace FL
open PySem PySem.Spec PyProof.Rows L2 PySem.W
/-- a dict with leaf keys -/
def LfO (P : Program) (w : World) (d : Addr) (kvs : List (Leaf × Value)) : HO := .ext fun h => h.DictOf (leafKind P w) d kvs
theorem lf_new {P : Program} {w : World} {H : Hp} {h : Heap} {d : Addr} {kvs : List (Leaf × Value)} (x : h.DictOf (leafKind P w) d kvs) : ObjOk P w H h d (LfO P w d kvs) := by
  have ⟨o, _, _, ho, _⟩ := x
  exact ⟨x, ⟨o, ho⟩, fun h1 h2 p k => Heap.DictOf.at p k⟩
theorem lf_get {X : Cx} {pins : List (Addr × Obj)} {σ : L2.St} {H : Hp} {s : Shared} {d : Addr} {kvs : List (Leaf × Value)} (I : Inv X pins σ H s) (h : H d = some (LfO X.prog X.w d kvs)) : s.heap.DictOf (leafKind X.prog X.w) d kvs := (I.hok d _ h).1
/-- the dict -/
def AboAt (P : Program) (w : World) (H : Hp) (d : Addr) : Prop := ∃ t1 t2 : Tok, H d = some (LfO P w d [(.text ("keep" : Str), .str ("cut" : Str) t1), (.text ("cut" : Str), .str ("keep" : Str) t2), (.none, .none)])
def tAbo (P : Program) (w : World) : TE := fun _ H Q => ∀ p H', H p = none → Same H H' → AboAt P w H' p → Q (.ref p) H'
theorem pe_abo {X : Cx} {pos : Pos} {keys : List (Option Expr)} {values : List Expr} (h : PPs X pos keys values [(tC (.str ("keep" : Str)), tC (.str ("cut" : Str))), (tC (.str ("cut" : Str)), tC (.str ("keep" : Str))), (tC .non, tC .non)]) (hall : keys.all (·.isSome) = true) (hl : keys.length = values.length) (h0 : keys ≠ [])
    (h15 : keys.length ≤ 15) : PE X (.Dict keys values pos) (tAbo X.prog X.w) := by
  refine ⟨fun pins s σ H Q I q => ?_⟩
  have hn := I.hok.fresh (Nat.le_refl s.heap.objs.size)
  have D0 : (s.heap.push { cls := .type "dict", data := .dict #[] }).DictOf (leafKind X.prog X.w) s.heap.objs.size [] := Heap.DictOf.new s.heap
  have I1 := I.laid (a := s.heap.objs.size) (o := LfO X.prog X.w s.heap.objs.size []) (h' := s.heap.push { cls := .type "dict", data := .dict #[] }) (t' := s.toks) (fun _ _ q => Heap.get?_push_of_some _ q) (Nat.le_refl _) (lf_new D0)
  refine wpAny_Dict_walk (knd := leafKind X.prog X.w) hall hl h0 h15 (thn (h.run pins _ σ _ (fun ps H2 => ps = [(.str ("keep" : Str), .str ("cut" : Str)), (.str ("cut" : Str), .str ("keep" : Str)), (.non, .non)] ∧ H2 = upd H s.heap.objs.size (LfO X.prog X.w s.heap.objs.size [])) I1 ⟨rfl, rfl⟩) fun ws s2 ⟨ps, H2, I2, rel, ep, eH⟩ => ?_)
  subst ep eH
  obtain ⟨w1, w2, w3, rfl, r1, r2, r3⟩ : ∃ w1 w2 w3, ws = [w1, w2, w3] ∧ (RelV (.str ("keep" : Str)) w1.1 ∧ RelV (.str ("cut" : Str)) w1.2) ∧ (RelV (.str ("cut" : Str)) w2.1 ∧ RelV (.str ("keep" : Str)) w2.2) ∧ (RelV .non w3.1 ∧ RelV .non w3.2) := by
    cases rel with
    | cons a rel => cases rel with
      | cons b rel => cases rel with
        | cons c rel => cases rel with
          | nil => exact ⟨_, _, _, rfl, a, b, c⟩
  obtain ⟨k1, v1⟩ := w1
  obtain ⟨k2, v2⟩ := w2
  obtain ⟨k3, v3⟩ := w3
  obtain ⟨⟨t1, rfl⟩, ⟨t2, rfl⟩⟩ := r1
  obtain ⟨⟨t3, rfl⟩, ⟨t4, rfl⟩⟩ := r2
  obtain ⟨rfl, rfl⟩ := r3
  have g0 : upd H s.heap.objs.size (LfO X.prog X.w s.heap.objs.size []) s.heap.objs.size = some (LfO X.prog X.w s.heap.objs.size []) := upd_same
  refine ⟨[(.text ("keep" : Str), .str ("cut" : Str) t2), (.text ("cut" : Str), .str ("keep" : Str) t4), (.none, .none)], ⟨?_, rfl, ?_, rfl, rfl, rfl, True.intro⟩, lf_get I2 g0, fun h' dd' hs => ?_⟩
  · show (("keep" : Str) == ("keep" : Str)) = true
    exact beq_self_eq_true _
  · show (("cut" : Str) == ("cut" : Str)) = true
    exact beq_self_eq_true _
  · have e2 : merged [] [((.text ("keep" : Str) : Leaf), Value.str ("cut" : Str) t2), (.text ("cut" : Str), .str ("keep" : Str) t4), (.none, .none)] = [(.text ("keep" : Str), .str ("cut" : Str) t2), (.text ("cut" : Str), .str ("keep" : Str) t4), (.none, .none)] := by rfl
    rw [e2] at dd'
    have he : ∃ q, h'.get? s.heap.objs.size = some q := let ⟨q, _, _, hq, _⟩ := dd'; ⟨q, hq⟩
    have I3 := d_write (t' := s2.toks + 3) I2 (by rw [g0]; exact True.intro) hs he (lf_new dd')
    rw [upd_upd] at I3
    exact ⟨.ref s.heap.objs.size, _, I3, rfl, q _ _ hn (same_upd hn) ⟨t2, t4, upd_same⟩⟩
/-- about[y] of a hand -/
def tAboIx (P : Program) (w : World) (td ty : TE) : TE := fun σ H Q => td σ H fun x H1 => ty σ H1 fun y H2 => ∃ (d : Addr) (b : Bool), x = .ref d ∧ AboAt P w H2 d ∧ y = .str (if b then ("keep" : Str) else ("cut" : Str)) ∧ Q (.str (if b then ("cut" : Str) else ("keep" : Str))) H2
theorem pe_aboIx {X : Cx} {o i : Expr} {pos : Pos} {td ty : TE} (ho : PE X o td) (hi : PE X i ty) (hs : NoSl i) : PE X (.Subscript o i pos) (tAboIx X.prog X.w td ty) := by
  refine ⟨fun pins s σ H Q I h => ?_⟩
  refine subD_of PySem.F.slot_dict_getitem.lookup hs (thn (ho.run pins s σ H _ I h) fun u s1 ⟨x, H1, I1, rx, q1⟩ => thn (hi.run pins s1 σ H1 _ I1 q1) fun iv s2 ⟨y, H2, I2, ry, d, b, ex, ⟨t1, t2, hd⟩, ey, q2⟩ => ?_)
  subst ex ey
  obtain rfl : u = Value.ref d := rx
  have D := lf_get I2 hd
  refine ⟨D.typeIs, ?_⟩
  obtain ⟨t, rfl⟩ := ry
  cases b with
  | true => exact wpAny_getItem_of (k := (.text ("keep" : Str) : Leaf)) (by show (("keep" : Str) == ("keep" : Str)) = true; exact beq_self_eq_true _) D.mapOf (v := .str ("cut" : Str) t1) (by rfl) ⟨.str ("cut" : Str), H2, I2.tok _, ⟨_, rfl⟩, q2⟩
  | false => exact wpAny_getItem_of (k := (.text ("cut" : Str) : Leaf)) (by show (("cut" : Str) == ("cut" : Str)) = true; exact beq_self_eq_true _) D.mapOf (v := .str ("keep" : Str) t2) (by rfl) ⟨.str ("keep" : Str), H2, I2.tok _, ⟨_, rfl⟩, q2⟩
end FL
/-! The law. -/
set_option Elab.async false
set_option linter.all false
set_option maxRecDepth 1000000
set_option maxHeartbeats 8000000
namespace FL
open PySem PySem.Spec PyProof.Rows L2
section
variable {K : PySem.W.Frag} {a : At} {H H' : Hp} {gm t m x : Addr} {T : Tab} {g : Nat} {Kp cut free : List Nat} {b : Bool}
theorem GameAt.src (h : GameAt K a H gm t T g m Kp cut free b) (ap : MoAp a H m x) {n : Nat} (hs : SrcAt H x n) (bt : But x H H') : GameAt K a H' gm t T g m Kp cut free b ∧ MoAp a H' m x := by
  obtain ⟨g0, sd, c, hx, _⟩ := hs
  obtain ⟨h1, ⟨dx, ml, i, ms, h2, h3, h4, h5, h6⟩, ⟨dm, kp, cp, fp, m1, m2, m3, m4⟩⟩ := h
  have hmx : m ≠ x := fun e => by rw [e, hx] at m1; cases m1
  obtain ⟨n1, n2, n3⟩ := ap _ _ _ _ _ m1
  refine ⟨⟨h1.but hx bt, ⟨dx, ml, i, ms, bt _ _ h2 (fun e => by rw [e, hx] at h2; cases h2), bt _ _ h3 (fun e => ?_), h4, h5, h6⟩, ⟨dm, kp, cp, fp, bt _ _ m1 hmx, bt _ _ m2 n1, bt _ _ m3 n2, bt _ _ m4 n3⟩⟩, ap.like (by rw [bt _ _ m1 hmx, m1])⟩
  rw [e, hx] at h3
  have e3 : [V.int g0, V.int sd, V.int c] = ms.map V.ref := by injection h3 with h3; injection h3
  cases ms with
  | nil => cases e3
  | cons y ys => cases e3
theorem not_gm {dx kp cp fp dg tt ml : Addr} {hd : V} {g' i' : Nat} (e : H m = some (.ins a.Moment dx [("kept", .ref kp), ("cut", .ref cp), ("free", .ref fp), ("hand", hd)])) (h : H x = some (.ins a.Game dg (gmF tt ml g' i'))) : m ≠ x := fun q => by
  rw [q, h] at e
  injection e with e
  injection e with _ _ e
  have := congrArg (fun fs : List (Str × V) => fs.lookup ("kept" : Str)) e
  cases this
theorem GameAt.other (h : GameAt K a H gm t T g m Kp cut free b) {dx t' ml' : Addr} {g' i' : Nat} (hx : H x = some (.ins a.Game dx (gmF t' ml' g' i'))) (ne : gm ≠ x) (bt : But x H H') : GameAt K a H' gm t T g m Kp cut free b := by
  obtain ⟨h1, ⟨dg, ml, i, ms, h2, h3, h4⟩, ⟨dm, kp, cp, fp, m1, m2, m3, m4⟩⟩ := h
  have nl : ∀ {y xs}, H y = some (.lst xs) → y ≠ x := fun {y xs} h e => by rw [e, hx] at h; cases h
  refine ⟨h1.odd ⟨_, _, _, hx, rfl, rfl⟩ bt, ⟨dg, ml, i, ms, bt _ _ h2 ne, bt _ _ h3 (nl h3), h4⟩, ⟨dm, kp, cp, fp, bt _ _ m1 fun e => ?_, bt _ _ m2 (nl m2), bt _ _ m3 (nl m3), bt _ _ m4 (nl m4)⟩⟩
  rw [e, hx] at m1
  injection m1 with m1
  injection m1 with _ _ m1
  have := congrArg (fun fs : List (Str × V) => fs.lookup ("kept" : Str)) m1
  cases this
end
theorem tabOk_of {f : Int} {W : Nat} {rws : List (List Int)} (hf : f ∈ fields) (n6 : rws.length ≤ 6) (w12 : W ≤ 12) (wid : ∀ r, r ∈ rws → r.length = W) (bd : ∀ r, r ∈ rws → ∀ x, x ∈ r → x.natAbs < 2 ^ 227) : TabOk (redT f W rws) := by
  have fnn := fld_nn hf
  refine ⟨hf, by show (rws.map _).length ≤ 6; rw [List.length_map]; exact n6, w12, fun r hr => ?_, fun hp r hr x hx => ?_, fun r hr x hx => ?_⟩
  · obtain ⟨r0, h0, rfl⟩ := List.mem_map.mp hr
    rw [List.length_map]
    exact wid r0 h0
  · obtain ⟨r0, h0, rfl⟩ := List.mem_map.mp hr
    obtain ⟨y, hy, rfl⟩ := List.mem_map.mp hx
    have hp : f > 0 := hp
    rw [if_pos hp]
    exact ⟨Int.emod_nonneg _ (by omega), Int.emod_lt_of_pos _ hp⟩
  · obtain ⟨r0, h0, rfl⟩ := List.mem_map.mp hr
    obtain ⟨y, hy, rfl⟩ := List.mem_map.mp hx
    by_cases hp : f > 0
    · rw [if_pos hp]
      have a1 := Int.emod_nonneg y (show f ≠ 0 by omega)
      have a2 := Int.emod_lt_of_pos y hp
      have : (y % f).natAbs < 2 ^ 4 := by omega
      exact Nat.lt_trans this (by decide)
    · rw [if_neg hp]
      exact bd r0 h0 y hy
theorem AboAt.keep {P : Program} {w : World} {H H' : Hp} {d : Addr} (h : AboAt P w H d) (bM : ∀ o, H d = some o → H' d = some o) : AboAt P w H' d := by
  obtain ⟨t1, t2, e⟩ := h
  exact ⟨t1, t2, bM _ e⟩
theorem AboAt.same {P : Program} {w : World} {H H' : Hp} {d : Addr} (h : AboAt P w H d) (s : Same H H') : AboAt P w H' d := h.keep fun o e => s _ _ e
/-! ### two games, one turned about -/
structure Pair (T T' : Tab) (g : Nat) (Kp cut free Kp' cut' : List Nat) : Prop where
  o : MoOk T g Kp cut free
  o' : MoOk T' g Kp' cut' free
  kc : ∀ z, z ∈ Kp ↔ z ∈ cut'
  ck : ∀ z, z ∈ cut ↔ z ∈ Kp'
section
variable {T T' : Tab} {g : Nat} {Kp cut free Kp' cut' Kp2 cut2 Kp2' cut2' : List Nat} {b : Bool} {row : Nat}
theorem Pair.over (h : Pair T T' g Kp cut free Kp' cut') (tu : Turned (fun k => k < T.n ∧ k ≠ g) g (cl T.p T.vec) (cl T'.p T'.vec)) : Over T g Kp free ↔ Over T' g Kp' free := by
  have hcl := cl_clo (fld_mem h.o.fo.cop.ok.fp) T.vec
  have hcl' := cl_clo (fld_mem h.o'.fo.cop.ok.fp) T'.vec
  have e1 : Made T g Kp ↔ Lost T' g Kp' free := (tu.made h.o.part).trans (not_congr ⟨fun c => hcl'.mono (fun x hx => hx.imp (h.ck x).mp id) c, fun c => hcl'.mono (fun x hx => hx.imp (h.ck x).mpr id) c⟩)
  have e2 : Made T' g Kp' ↔ Lost T g Kp free := by
    have := tu.symm.made h.o.part.swap
    refine (⟨fun c => hcl'.mono (fun x hx => (h.ck x).mpr hx) c, fun c => hcl'.mono (fun x hx => (h.ck x).mp hx) c⟩ : Made T' g Kp' ↔ cl T'.p T'.vec (fun k => k ∈ cut) g).trans this
  unfold Over
  rw [e1, e2, or_comm]
theorem Pair.winB (h : Pair T T' g Kp cut free Kp' cut') (tu : Turned (fun k => k < T.n ∧ k ≠ g) g (cl T.p T.vec) (cl T'.p T'.vec)) : WinB T g Kp free b ↔ ¬ WinB T' g Kp' free (!b) := by
  have hcl := cl_clo (fld_mem h.o.fo.cop.ok.fp) T.vec
  have hcl' := cl_clo (fld_mem h.o'.fo.cop.ok.fp) T'.vec
  refine (win_turned free.length hcl hcl' tu b ⟨free, Nat.le_refl _, fun x hx => hx⟩ h.o.part).trans (not_congr ?_)
  exact ⟨fun w => win_congr hcl' _ h.ck (fun z => Iff.rfl) w, fun w => win_congr hcl' _ (fun z => (h.ck z).symm) (fun z => Iff.rfl) w⟩
theorem Pair.nxtB (h : Pair T T' g Kp cut free Kp' cut') (tu : Turned (fun k => k < T.n ∧ k ≠ g) g (cl T.p T.vec) (cl T'.p T'.vec)) {k : Nat} (hk : k ∈ free) : nxtB T g Kp free b k = !nxtB T' g Kp' free (!b) k := by
  have hcl := cl_clo (fld_mem h.o.fo.cop.ok.fp) T.vec
  have hcl' := cl_clo (fld_mem h.o'.fo.cop.ok.fp) T'.vec
  have hl := free_less h.o.fo.nf hk
  have am : AtMost (fun z => z ∈ free ∧ z ≠ k) (free.length - 1) := ⟨free.filter fun z => z != k, by omega, fun x hx => List.mem_filter.mpr ⟨hx.1, by simpa using hx.2⟩⟩
  have pt : Part (fun k => k < T.n ∧ k ≠ g) (fun z => z ∈ Kp ∨ (b = true ∧ z = k)) (fun z => z ∈ free ∧ z ≠ k) (fun z => z ∈ cut ∨ ((!b) = true ∧ z = k)) := by
    cases b with
    | true =>
      have p := h.o.part.keep hk
      exact ⟨fun x => by rw [p.all x]; simp, fun x hx => p.kf x (by simpa using hx), fun x hx q => p.kt x (by simpa using hx) (by simpa using q), fun x hx q => p.ft x hx (by simpa using q)⟩
    | false =>
      have p := h.o.part.cut hk
      exact ⟨fun x => by rw [p.all x]; simp, fun x hx => p.kf x (by simpa using hx), fun x hx q => p.kt x (by simpa using hx) (by simpa using q), fun x hx q => p.ft x hx (by simpa using q)⟩
  have w := win_turned (free.length - 1) hcl hcl' tu (!b) am pt
  have e : ((!FL.nxtB T' g Kp' free (!b) k) = true) ↔ ¬ (FL.nxtB T' g Kp' free (!b) k = true) := by cases FL.nxtB T' g Kp' free (!b) k <;> simp
  rw [Bool.eq_iff_iff, nxtB_iff, w, e, nxtB_iff]
  refine not_congr ⟨fun w => win_congr hcl' _ (fun z => ?_) (fun z => Iff.rfl) w, fun w => win_congr hcl' _ (fun z => ?_) (fun z => Iff.rfl) w⟩
  · rw [h.ck z]
  · rw [h.ck z]
theorem Pair.winL (h : Pair T T' g Kp cut free Kp' cut') (tu : Turned (fun k => k < T.n ∧ k ≠ g) g (cl T.p T.vec) (cl T'.p T'.vec)) : winL T' g Kp' free (!b) = winL T g Kp free b := by
  unfold FL.winL
  refine List.filter_congr fun k hk => ?_
  rw [h.nxtB tu hk (b := b)]
  cases FL.nxtB T' g Kp' free (!b) k <;> cases b <;> rfl
theorem Pair.next (h : Pair T T' g Kp cut free Kp' cut') (hr : row ∈ free) (n1 : Nxt Kp cut row b Kp2 cut2) (n2 : Nxt Kp' cut' row (!b) Kp2' cut2') : Pair T T' g Kp2 cut2 (free.filter fun k => k != row) Kp2' cut2' := by
  refine ⟨h.o.nxt hr n1, h.o'.nxt hr n2, fun z => ?_, fun z => ?_⟩
  · cases b with
    | true =>
      obtain ⟨p1, _⟩ := n1
      obtain ⟨_, p2⟩ := n2
      rw [p1.mem_iff, p2.mem_iff, List.mem_append, List.mem_append, h.kc z]
    | false =>
      obtain ⟨rfl, _⟩ := n1
      obtain ⟨_, rfl⟩ := n2
      exact h.kc z
  · cases b with
    | true =>
      obtain ⟨_, rfl⟩ := n1
      obtain ⟨rfl, _⟩ := n2
      exact h.ck z
    | false =>
      obtain ⟨_, p1⟩ := n1
      obtain ⟨p2, _⟩ := n2
      rw [p1.mem_iff, p2.mem_iff, List.mem_append, List.mem_append, h.ck z]
theorem pair_start (O : TabOk T) (O' : TabOk T') (hn : T'.n = T.n) (hg : g < T.n) : Pair T T' g [] [] ((List.range T.n).filter fun k => k != g) [] [] := by
  have hf : ∀ k, k ∈ (List.range T.n).filter (fun k => k != g) ↔ k < T.n ∧ k ≠ g := fun k => by rw [List.mem_filter, List.mem_range]; simp
  have mo : ∀ {T2 : Tab}, TabOk T2 → T2.n = T.n → MoOk T2 g [] [] ((List.range T.n).filter fun k => k != g) := fun {T2} O2 e => by
    have f5 := five_of (n := T.n) (g := g) (List.nodup_range.filter _) (fun k hk => (hf k).mp hk) hg O.n6
    refine ⟨⟨⟨O2, List.nodup_nil, fun k h => by simp at h, fun r h => ⟨by rw [e]; exact ((hf r).mp h).1, ((hf r).mp h).2, by simp⟩, by rw [e]; exact hg, by omega⟩, List.nodup_range.filter _, f5⟩, List.nodup_nil, ⟨fun x => ?_, fun x h => by simp at h, fun x h => by simp at h, fun x _ h => by simp at h⟩⟩
    rw [hf, e]
    simp
  exact ⟨mo O rfl, mo O' hn, fun z => Iff.rfl, fun z => Iff.rfl⟩
end
section
variable (P : Program) (w : World) {K : PySem.W.Frag} {mg : Str → Option Value} (base : Heap) {a : At}
def sp_law (K : PySem.W.Frag) : Sp := fun vs H Q _ => ∃ (p : Addr) (ns : List Int), vs = [.ref p] ∧ SqL K H p (ns.map V.int) ∧ ∀ H', Q (.bl true) H'
theorem fn_core {k : Nat} {f : Addr} {sp : Sp} {x qual : Str} {st : Stmt} {N ps : List Str} {fd : FuncData} (F : FunD K x qual (defArgs st) (defBody st) (defScope st) [] [] f fd) (S : FnScope N ps (defScope st))
    (len : ∀ vs H Q E, sp vs H Q E → vs.length = ps.length)
    (hbody : ∀ (cdv : Value) (A : Around) (outer : List Env) (s : Shared) (H : Hp) (vs : List V) (Q : VK) (E : XK), Room k (A.deeper (envOfC qual (defScope st) s.heap.objs.size f cdv)) → sp vs H Q E →
      ∃ t, PSs (cxOf CX0 P w K mg base N qual (defScope st) f cdv A outer s H E).nox (defBody st) t ∧ t { nx := fun _ H' => Q .non H', rt := Q } (start N vs) H) : FnOk P w K mg base CX0 (k + 1) f fd ps sp := by
  refine F.ok S len fun cdv A outer s H vs Q E hr hsp => ?_
  obtain ⟨t, h1, h2⟩ := hbody cdv A outer s H vs Q E hr hsp
  exact ⟨t, h1.nox, h2⟩
theorem law_core {fd : FuncData} (F : FunD K "law" "law" (defArgs s_law) (defBody s_law) (defScope s_law) [] [] a.law fd) (T : Tx K mg a) : FnOk P w K mg base CX0 18 a.law fd ["_law_script"] (sp_law K) := by
  refine fn_core P w base F sc_law (fun vs H Q E h => ?_) fun cdv A outer s H vs Q E hr h => ?_
  · obtain ⟨p, ns, rfl, _⟩ := h
    rfl
  · obtain ⟨p, ns, rfl, hp, q⟩ := h
    have hu := hu_of hr
    refine ⟨_, pss_cons (ps_set (i := 1) sc_law.nd rfl (by first | exact Or.inl rfl | exact Or.inr rfl) (pe_call (ok__law_source P w base T).ok (hr.mono (by decide)) (by rfl) T.g__law_source (ok__law_source P w base T).kp (ok__law_source P w base T).b .nil pass0 (pa_cons (pv 0) pa_nil)))
        (pss_cons (ps_for PassesOwn.never rfl (pi_range1 (by rfl) T.b_range (pa_cons pe_int pa_nil)) (pg_name (i := 2) sc_law.nd rfl (by first | exact Or.inl rfl | exact Or.inr rfl)) (pss_cons (ps_asg (pe_call (ok__law_game P w base T).ok (hr.mono (by decide)) (by rfl) T.g__law_game (ok__law_game P w base T).kp (ok__law_game P w base T).b .nil pass0 (pa_cons (pv 1) (pa_cons pe_int pa_nil))) (pg_tup rfl (pgs_cons (pg_name (i := 3) sc_law.nd rfl (by first | exact Or.inl rfl | exact Or.inr rfl)) (pgs_cons (pg_name (i := 4) sc_law.nd rfl (by first | exact Or.inl rfl | exact Or.inr rfl)) pgs_nil))))
        (pss_cons (ps_set (i := 5) sc_law.nd rfl (by first | exact Or.inl rfl | exact Or.inr rfl) (pe_call (ok__law_pick P w base T).ok (hr.mono (by decide)) (by rfl) T.g__law_pick (ok__law_pick P w base T).kp (ok__law_pick P w base T).b .nil pass0 (pa_cons (pv 1) (pa_cons (pe_lst (pa_cons (pe_tup (pa_cons pe_str (pa_cons pe_str pa_nil))) (pa_cons (pe_tup (pa_cons pe_str (pa_cons pe_str pa_nil))) pa_nil))) pa_nil))))
        (pss_cons (ps_par (i := 6) (j := 7) rfl sc_law.nd rfl rfl (by decide) rfl rfl (pa_cons (pe_make T.k_Game (ok_Game_init P w base T).ok (hr.mono (by decide)) (by rfl) T.gC_Game (ok_Game_init P w base T).b .nil pass0 (pa_cons (pe_call (ok__law_made P w base T).ok (hr.mono (by decide)) (by rfl) T.g__law_made (ok__law_made P w base T).kp (ok__law_made P w base T).b .nil pass0 (pa_cons (pv 3) pa_nil)) (pa_cons (pv 4) (pa_cons (pe_ix ix_tup (pv 5) pe_int (fun _ _ => rfl)) pa_nil)))) (pa_cons (pe_make T.k_Game (ok_Game_init P w base T).ok (hr.mono (by decide)) (by rfl) T.gC_Game (ok_Game_init P w base T).b .nil pass0 (pa_cons (pe_call (ok__law_made P w base T).ok (hr.mono (by decide)) (by rfl) T.g__law_made (ok__law_made P w base T).kp (ok__law_made P w base T).b .nil pass0 (pa_cons (pe_call (ok__law_turned P w base T).ok (hr.mono (by decide)) (by rfl) T.g__law_turned (ok__law_turned P w base T).kp (ok__law_turned P w base T).b .nil pass0 (pa_cons (pv 3) pa_nil)) pa_nil)) (pa_cons (pv 4) (pa_cons (pe_ix ix_tup (pv 5) pe_int (fun _ _ => rfl)) pa_nil)))) pa_nil)) (by rfl))
        (pss_cons (ps_set (i := 8) sc_law.nd rfl (by first | exact Or.inl rfl | exact Or.inr rfl) (pe_abo (pps_cons pe_str pe_str (pps_cons pe_str pe_str (pps_cons pe_non pe_non pps_nil))) (by rfl) (by rfl) (fun z => by cases z) (by decide)))
        (pss_cons (ps_while PassesOwn.never (pt_cmpR op_notN (pe_meth0 (pv 6) T.c_Game T.M_Game_turn (ok_Game_turn P w base T).ok (hr.mono (by decide)) (ok_Game_turn P w base T).b .nil pass0) pe_non (nomark _)) (pss_cons (ps_if (PW.pt (pw_or (pt_cmpR op_ne (pe_meth0 (pv 7) T.c_Game T.M_Game_turn (ok_Game_turn P w base T).ok (hr.mono (by decide)) (ok_Game_turn P w base T).b .nil pass0) (pe_aboIx (pv 8) (pe_meth0 (pv 6) T.c_Game T.M_Game_turn (ok_Game_turn P w base T).ok (hr.mono (by decide)) (ok_Game_turn P w base T).b .nil pass0) (fun _ _ => rfl)) (nomark _)) (pw_or1 (pt_cmpR op_ne (pe_meth0 (pv 7) T.c_Game T.M_Game_winner (ok_Game_winner P w base T).ok (hr.mono (by decide)) (ok_Game_winner P w base T).b .nil pass0) (pe_aboIx (pv 8) (pe_meth0 (pv 6) T.c_Game T.M_Game_winner (ok_Game_winner P w base T).ok (hr.mono (by decide)) (ok_Game_winner P w base T).b .nil pass0) (fun _ _ => rfl)) (nomark _))))) (pss_one (ps_ret pe_bl)) pss_nil)
        (pss_cons (ps_if (PW.pt (pw_or (pt_cmpR (op_neD hr.units) (pe_meth0 (pv 7) T.c_Game T.M_Game_winning (ok_Game_winning P w base T).ok (hr.mono (by decide)) (ok_Game_winning P w base T).b .nil pass0) (pe_meth0 (pv 6) T.c_Game T.M_Game_winning (ok_Game_winning P w base T).ok (hr.mono (by decide)) (ok_Game_winning P w base T).b .nil pass0) (nomark _)) (pw_or1 (pt_cmpR (op_neD hr.units) (pe_meth0 (pv 7) T.c_Game T.M_Game_free_rows (ok_Game_free_rows P w base T).ok (hr.mono (by decide)) (ok_Game_free_rows P w base T).b .nil pass0) (pe_meth0 (pv 6) T.c_Game T.M_Game_free_rows (ok_Game_free_rows P w base T).ok (hr.mono (by decide)) (ok_Game_free_rows P w base T).b .nil pass0) (nomark _))))) (pss_one (ps_ret pe_bl)) pss_nil)
        (pss_cons (ps_set (i := 9) sc_law.nd rfl (by first | exact Or.inl rfl | exact Or.inr rfl) (pe_call (ok__law_pick P w base T).ok (hr.mono (by decide)) (by rfl) T.g__law_pick (ok__law_pick P w base T).kp (ok__law_pick P w base T).b .nil pass0 (pa_cons (pv 1) (pa_cons (pe_meth0 (pv 6) T.c_Game T.M_Game_free_rows (ok_Game_free_rows P w base T).ok (hr.mono (by decide)) (ok_Game_free_rows P w base T).b .nil pass0) pa_nil))))
        (pss_one (ps_if (pt_cmpR op_ne (pe_meth (pv 6) T.c_Game T.M_Game_take (ok_Game_take P w base T).ok (hr.mono (by decide)) (ok_Game_take P w base T).b .nil pass0 (pa_cons (pv 9) pa_nil)) (pe_meth (pv 7) T.c_Game T.M_Game_take (ok_Game_take P w base T).ok (hr.mono (by decide)) (ok_Game_take P w base T).b .nil pass0 (pa_cons (pv 9) pa_nil)) (nomark _)) (pss_one (ps_ret pe_bl)) pss_nil))))))
        (pss_one (ps_if (PW.pt (pw_or (pt_cmpR op_notN (pe_meth0 (pv 7) T.c_Game T.M_Game_turn (ok_Game_turn P w base T).ok (hr.mono (by decide)) (ok_Game_turn P w base T).b .nil pass0) pe_non (nomark _)) (pw_or1 (pt_cmpR op_ne (pe_meth0 (pv 7) T.c_Game T.M_Game_winner (ok_Game_winner P w base T).ok (hr.mono (by decide)) (ok_Game_winner P w base T).b .nil pass0) (pe_aboIx (pv 8) (pe_meth0 (pv 6) T.c_Game T.M_Game_winner (ok_Game_winner P w base T).ok (hr.mono (by decide)) (ok_Game_winner P w base T).b .nil pass0) (fun _ _ => rfl)) (nomark _))))) (pss_one (ps_ret pe_bl)) pss_nil))))))))
        (pss_one (ps_ret pe_bl))), ?_⟩
    refine ⟨_, rfl, p, ns, rfl, hp, fun H1 src s1 nsrc hS => ?_⟩
    refine ⟨2, rfl, by decide, by decide, ?_⟩
    refine for_it (walk_range (lo := 0) (n := 2)) (fun i σ H' => ∃ y2 y3 y4 y5 y6 y7 y8 y9 : Option V, σ = [some (.ref p), some (.ref src), y2, y3, y4, y5, y6, y7, y8, y9] ∧ SrcAt H' src (200 * i)) ⟨none, none, none, none, none, none, none, none, rfl, hS⟩ (fun _ _ _ _ _ => trivial) (fun i z σ H2 H3 hi hQ hy => ?_) fun σ H2 hQ => ?_
    · obtain ⟨y2, y3, y4, y5, y6, y7, y8, y9, rfl, hS2⟩ := hQ
      obtain ⟨rfl, hz⟩ := hy
      have hi : i < 2 := hi
      -- the parts, the goal
      refine ⟨_, rfl, src, 200 * i, rfl, hS2, by omega, fun H4 r pp fo rws W f g b4 hS4 gr gpp hF hB w1 w3 n0 n6 hf hg npp => ?_⟩
      refine ⟨r, _, rfl, SqT.of gr, rfl, _, _, rfl, _, _, rfl, rfl, ?_⟩
      -- the hands
      refine ⟨_, rfl, (by show 2 ≤ sizeLine; decide), fun h1 hh1 => ⟨(by show 2 ≤ sizeLine; decide), fun h2 hh2 => ⟨(by show 2 ≤ sizeLine; decide), fun hl hhl => ?_⟩⟩⟩
      have t1 := same_upd (o := .tup [.str ("keep" : Str), .str ("cut" : Str)]) hh1
      have t2 := same_upd (o := .tup [.str ("cut" : Str), .str ("keep" : Str)]) hh2
      have t3 := same_upd (o := .lst [.ref h1, .ref h2]) hhl
      have g1 := t3 _ _ (t2 _ _ (show upd H4 h1 (.tup [.str ("keep" : Str), .str ("cut" : Str)]) h1 = _ from upd_same))
      have g2 := t3 _ _ (show upd (upd H4 h1 _) h2 (.tup [.str ("cut" : Str), .str ("keep" : Str)]) h2 = _ from upd_same)
      have s5 := t1.trans (t2.trans t3)
      have nls : hl ≠ src := fun e => by obtain ⟨_, _, _, h, _⟩ := hS4; rw [e, t1.trans t2 _ _ h] at hhl; cases hhl
      refine ⟨src, hl, 200 * i + 100, _, rfl, hS4.same s5, by omega, upd_same, nls, Nat.le_of_ble_eq_true rfl, Nat.le_of_ble_eq_true rfl, fun H5 d v b5 hS5 hv => ?_⟩
      have nh1 : h1 ≠ src := fun e => by obtain ⟨_, _, _, h, _⟩ := hS4; rw [e, h] at hh1; cases hh1
      have nh2 : h2 ≠ src := fun e => by obtain ⟨_, _, _, h, _⟩ := hS4; rw [e, t1 _ _ h] at hh2; cases hh2
      obtain ⟨hp_, b, rfl, ghp⟩ : ∃ hp_ b, v = .ref hp_ ∧ H5 hp_ = some (.tup [.str (handS b), .str (handS (!b))]) := by
        match d, hv with
        | 0, hv => cases hv; exact ⟨h1, true, rfl, b5 _ _ g1 nh1⟩
        | 1, hv => cases hv; exact ⟨h2, false, rfl, b5 _ _ g2 nh2⟩
      have b45 := (sbut s5).trans b5
      have hF5 := hF.but b45
      have gpp5 := b45 _ _ gpp npp
      have wid : ∀ r, r ∈ rws → r.length = W := fun r hr => by obtain ⟨j, hj⟩ := List.getElem?_of_mem hr; exact (hB j r hj).1
      have bd : ∀ r, r ∈ rws → ∀ x, x ∈ r → x.natAbs < 2 ^ 9 := fun r hr x hx => by
        obtain ⟨j, hj⟩ := List.getElem?_of_mem hr
        have h1 := (hB j r hj).2 x hx
        have h2 : j < rws.length := (List.getElem?_eq_some_iff.mp hj).1
        have h3 : 3 ^ j ≤ 3 ^ 5 := Nat.pow_le_pow_right (by decide) (by omega)
        exact Nat.lt_of_le_of_lt h1 (Nat.lt_of_le_of_lt (Nat.mul_le_mul_left 2 h3) (by decide))
      have hP : PartsAt H5 pp fo rws W f := ⟨gpp5, hF5.rws, n0, n6, w1, w3, wid, bd, hf⟩
      have fnn := fld_nn hf
      have O : TabOk (redT f W rws) := tabOk_of hf n6 (by omega) wid fun r hr x hx => Nat.lt_trans (bd r hr x hx) (by decide)
      have Tn : (redT f W rws).n = rws.length := redT_n
      have ath0 : atI [V.str (handS b), V.str (handS (!b))] (0 : Int) = some (.str (handS b)) := at_nat (j := 0) rfl
      have ath1 : atI [V.str (handS b), V.str (handS (!b))] (1 : Int) = some (.str (handS (!b))) := at_nat (j := 1) rfl
      obtain ⟨gS, gsd, gc, gsrc, _⟩ := id hS5
      -- one
      refine ⟨_, rfl, pp, fo, rws, W, f, rfl, gpp5, hF5.rws, n0, n6, by omega, wid, hf, fun H6 t1' s6 nt1 hT1 => ?_⟩
      refine ⟨_, rfl, _, rfl, hp_, _, _, _, rfl, rfl, SqT.of (s6 _ _ ghp), ath0, fun gm1 dx1 hn1 hdn1 hne1 => ?_⟩
      have v1 := (same_upd (o := .own gm1) hdn1).trans (same_upd (o := .ins a.Game dx1 []) (by rw [upd_ne hne1.symm]; exact hn1))
      refine ⟨gm1, dx1, t1', redT f W rws, b, g, rfl, upd_same, hT1.same v1, O, by rw [Tn]; exact hg, fun H7 m1 old7 hG1 ap1 => ⟨rfl, ?_⟩⟩
      have s67 : Same H6 H7 := fun x o e => old7 _ _ (v1 _ _ e) (ne_of_none e hn1)
      have s57 := s6.trans s67
      have ap1s : MoAp a H7 m1 src := ap1 src _ (v1 _ _ (s6 _ _ gsrc))
      -- the other
      refine ⟨_, rfl, pp, fo, rws, W, f, rfl, hP.same s57, fun H8 pp2 rp2 F s8 gpp2 hR2 J => ?_⟩
      have F3 : F.length ≤ 3 := Nat.le_trans J.le w3
      have fl6 := freeL_len F rws.length
      have wid2 : ∀ r, r ∈ rowsT F rws.length f → r.length = (freeL F rws.length).length := fun r hr => rowsT_wid hr
      refine ⟨pp2, rp2, rowsT F rws.length f, (freeL F rws.length).length, f, rfl, gpp2, hR2, by rw [rowsT_len]; exact n0, by rw [rowsT_len]; exact n6, by omega, wid2, hf, fun H9 t2' s9 nt2 hT2 => ?_⟩
      have O2 : TabOk (redT f (freeL F rws.length).length (rowsT F rws.length f)) := tabOk_of hf (by rw [rowsT_len]; exact n6) (by omega) wid2 fun r hr x hx => (J.rowsT_ok hf F3 hr hx).1
      have Tn2 : (redT f (freeL F rws.length).length (rowsT F rws.length f)).n = rws.length := by rw [redT_n, rowsT_len]
      have tu : Turned (fun k => k < (redT f W rws).n ∧ k ≠ g) g (cl (redT f W rws).p (redT f W rws).vec) (cl (redT f (freeL F rws.length).length (rowsT F rws.length f)).p (redT f (freeL F rws.length).length (rowsT F rws.length f)).vec) := by
        rw [Tn]
        exact turned_tab hf J F3 wid hg
      have s79 := s8.trans s9
      refine ⟨_, rfl, _, rfl, hp_, _, _, _, rfl, rfl, SqT.of (s79 _ _ (s57 _ _ ghp)), ath1, fun gm2 dx2 hn2 hdn2 hne2 => ?_⟩
      have v2 := (same_upd (o := .own gm2) hdn2).trans (same_upd (o := .ins a.Game dx2 []) (by rw [upd_ne hne2.symm]; exact hn2))
      refine ⟨gm2, dx2, t2', _, !b, g, rfl, upd_same, hT2.same v2, O2, by rw [Tn2]; exact hg, fun H10 m2 old10 hG2 ap2 => ⟨rfl, ?_⟩⟩
      have s910 : Same H9 H10 := fun x o e => old10 _ _ (v2 _ _ e) (ne_of_none e hn2)
      have s710 := s79.trans s910
      obtain ⟨_, _, _, _, gg1, _⟩ := id hG1.ob
      have gne : gm1 ≠ gm2 := ne_of_none (s79 _ _ gg1) hn2
      have ap2s : MoAp a H10 m2 src := ap2 src _ (v2 _ _ (s79 _ _ (s57 _ _ gsrc)))
      have m1b : ∃ o, H7 m1 = some o := let ⟨_, _, _, _, e, _⟩ := hG1.mo; ⟨_, e⟩
      have ap1t : MoAp a H10 m1 src := ap1s.like (by obtain ⟨o, e⟩ := m1b; rw [s710 _ _ e, e])
      have PR := pair_start O O2 (by rw [Tn, Tn2]) (show g < (redT f W rws).n by rw [Tn]; exact hg)
      generalize redT f (freeL F rws.length).length (rowsT F rws.length f) = T2 at *
      generalize redT f W rws = T1 at *
      rw [show T2.n = T1.n by rw [Tn, Tn2]] at hG2
      refine ⟨_, _, rfl, ?_⟩
      intro abo H11 nabo s11 hab
      have s511 := s57.trans (s710.trans s11)
      have fr6 : ((List.range T1.n).filter fun k => k != g).length ≤ 6 := Nat.le_trans PR.o.fo.f5 (by decide)
      have apu : ∀ {m : Addr}, (∃ o, H10 m = some o) → MoAp a H10 m src → MoAp a H11 m src := fun {m} e ap => ap.like (by obtain ⟨o, e⟩ := e; rw [s11 _ _ e, e])
      refine ⟨fun m σ H' => ∃ (m1 m2 : Addr) (Kp cut free Kp' cut' : List Nat) (b : Bool) (y9 : Option V), σ = [some (.ref p), some (.ref src), some z, some (.ref pp), some (.int (g : Int)), some (.ref hp_), some (.ref gm1), some (.ref gm2), some (.ref abo), y9] ∧
        GameAt K a H' gm1 t1' T1 g m1 Kp cut free b ∧ GameAt K a H' gm2 t2' T2 g m2 Kp' cut' free (!b) ∧ Pair T1 T2 g Kp cut free Kp' cut' ∧ MoAp a H' m1 src ∧ MoAp a H' m2 src ∧ SrcAt H' src (200 * i + 110 - free.length) ∧ AboAt P w H' abo ∧ m = free.length, ?_, fun m σ HW hW => ?_⟩
      · exact ⟨_, m1, m2, [], [], _, [], [], b, y9, rfl, (hG1.same s710).same s11, hG2.same s11, PR, apu (let ⟨o, e⟩ := m1b; ⟨o, s710 _ _ e⟩) ap1t, apu (let ⟨_, _, _, _, e, _⟩ := hG2.mo; ⟨_, e⟩) ap2s, (hS5.same s511).mono (by omega), hab, rfl⟩
      clear hG1 hG2 ap1t ap2s ap1s PR hab apu m1b fr6 ap1 ap2 gg1 hT1 hT2
      obtain ⟨m1, m2, Kp, cut, free, Kp', cut', b, y9, rfl, hG1, hG2, PR, ap1, ap2, hSW, habW, rfl⟩ := hW
      have f5 := PR.o.fo.f5
      obtain ⟨dg1, ml1, i1, ms1, gg1, _⟩ := id hG1.ob
      obtain ⟨dg2, ml2, i2, ms2, gg2, _⟩ := id hG2.ob
      obtain ⟨gS2, gsd2, gc2, gsrcW, _⟩ := id hSW
      have ov := PR.over tu
      refine ⟨_, rfl, gm1, dg1, _, rfl, gg1, rfl, gm1, t1', T1, g, m1, Kp, cut, free, b, rfl, hG1, PR.o, fun HC sC over => ⟨rfl, _, rfl, itF rfl ?_⟩, fun HC sC nover => ⟨rfl, _, rfl, itT (by cases b <;> rfl) ?_⟩⟩
      · -- the game is over
        refine ⟨_, rfl, gm2, dg2, _, rfl, sC _ _ gg2, rfl, gm2, t2', T2, g, m2, Kp', cut', free, !b, rfl, hG2.same sC, PR.o', fun HD sD over2 => ⟨rfl, _, rfl, itF rfl ?_⟩, fun HD sD nover2 => absurd (ov.mp over) nover2⟩
        have sCD := sC.trans sD
        refine ⟨_, rfl, gm2, dg2, _, rfl, sCD _ _ gg2, rfl, gm2, t2', T2, g, m2, Kp', cut', free, !b, rfl, hG2.same sCD, PR.o', fun HA1 c2 sA1 hc2 => ?_⟩
        refine ⟨_, rfl, _, rfl, gm1, dg1, _, rfl, (sCD.trans sA1) _ _ gg1, rfl, gm1, t1', T1, g, m1, Kp, cut, free, b, rfl, hG1.same (sCD.trans sA1), PR.o, fun HB1 c1 sB1 hc1 => ?_⟩
        have cc : c2 = !c1 := by
          have := PR.winB tu (b := b)
          rw [← hc1, ← hc2] at this
          cases c1 <;> cases c2 <;> simp at this <;> rfl
        have sC1 := sCD.trans (sA1.trans sB1)
        refine ⟨abo, c1, rfl, habW.same sC1, rfl, rfl, _, rfl, ?_⟩
        refine itF (by rw [cc]; cases c1 <;> decide) ?_
        exact ⟨_, _, _, _, _, _, _, _, rfl, (hSW.same sC1).mono (by omega)⟩
      · have nover2 : ¬ Over T2 g Kp' free := fun h => nover (ov.mpr h)
        refine ⟨fun σ' H' => ∃ m', m' < free.length ∧ _, fun σ' H' h => h, ?_⟩
        -- turns, winners
        refine ⟨_, rfl, gm2, dg2, _, rfl, sC _ _ gg2, rfl, gm2, t2', T2, g, m2, Kp', cut', free, !b, rfl, hG2.same sC, PR.o', fun HD sD over2 => absurd over2 nover2, fun HD sD _ => ?_⟩
        have sCD := sC.trans sD
        refine ⟨_, rfl, _, rfl, gm1, dg1, _, rfl, sCD _ _ gg1, rfl, gm1, t1', T1, g, m1, Kp, cut, free, b, rfl, hG1.same sCD, PR.o, fun HE sE over2 => absurd over2 nover, fun HE sE _ => ?_⟩
        have sCE := sCD.trans sE
        refine ⟨abo, b, rfl, habW.same sCE, rfl, rfl, _, rfl, itF (by cases b <;> decide) ?_⟩
        refine ⟨_, rfl, gm2, dg2, _, rfl, sCE _ _ gg2, rfl, gm2, t2', T2, g, m2, Kp', cut', free, !b, rfl, hG2.same sCE, PR.o', fun HA1 c2 sA1 hc2 => ?_⟩
        refine ⟨_, rfl, _, rfl, gm1, dg1, _, rfl, (sCE.trans sA1) _ _ gg1, rfl, gm1, t1', T1, g, m1, Kp, cut, free, b, rfl, hG1.same (sCE.trans sA1), PR.o, fun HB1 c1 sB1 hc1 => ?_⟩
        have cc : c2 = !c1 := by
          have := PR.winB tu (b := b)
          rw [← hc1, ← hc2] at this
          cases c1 <;> cases c2 <;> simp at this <;> rfl
        have sC1 := sCE.trans (sA1.trans sB1)
        refine ⟨abo, c1, rfl, habW.same sC1, rfl, rfl, _, rfl, ?_⟩
        refine itF (by rw [cc]; cases c1 <;> decide) ?_
        -- the winning rows
        refine ⟨_, rfl, gm2, dg2, _, rfl, sC1 _ _ gg2, rfl, gm2, t2', T2, g, m2, Kp', cut', free, !b, rfl, hG2.same sC1, PR.o', nover2, fun HF l2 sF nl2 gl2 => ?_⟩
        have s2F := sC1.trans sF
        refine ⟨_, rfl, gm1, dg1, _, rfl, s2F _ _ gg1, rfl, gm1, t1', T1, g, m1, Kp, cut, free, b, rfl, hG1.same s2F, PR.o, nover, fun HG l1 sG nl1 gl1 => ?_⟩
        have s2G := s2F.trans sG
        have dpi : ∀ {H' : Hp} {l : Addr} {ks : List Nat}, H' l = some (.lst (ixs ks)) → Dp K H' (.ref l) (.list ((castL ks).map PyData.int)) := fun {H' l ks} h => by
          refine .lst (SqL.of h) ?_
          rw [← ixs_cast]
          exact dp_ints _
        have eqr : ∀ ks : List Nat, PyData.eqv (.list ((castL ks).map PyData.int)) (.list ((castL ks).map PyData.int)) = true := fun ks => PySem.SeqAt.eqv_refl _ (by simp only [PyData.canLay0]; exact PySem.W.canLayAll0_ints _)
        rw [PR.winL tu] at gl2
        refine ⟨_, _, dpi (sG _ _ gl2), dpi gl1, PySem.W.shaped_ints _, PySem.W.shaped_ints _, _, rfl, itF (by rw [eqr]; rfl) ?_⟩
        refine ⟨_, rfl, gm2, dg2, _, rfl, s2G _ _ gg2, rfl, gm2, t2', T2, g, m2, Kp', cut', free, !b, rfl, hG2.same s2G, fun HI l3 sI nl3 gl3 => ?_⟩
        have s2I := s2G.trans sI
        refine ⟨_, rfl, gm1, dg1, _, rfl, s2I _ _ gg1, rfl, gm1, t1', T1, g, m1, Kp, cut, free, b, rfl, hG1.same s2I, fun HJ l4 sJ nl4 gl4 => ?_⟩
        have s2J := s2I.trans sJ
        refine ⟨_, _, dpi (sJ _ _ gl3), dpi gl4, PySem.W.shaped_ints _, PySem.W.shaped_ints _, _, rfl, itF (by rw [eqr]; rfl) ?_⟩
        -- the row drawn
        refine ⟨_, rfl, _, rfl, gm1, dg1, _, rfl, s2J _ _ gg1, rfl, gm1, t1', T1, g, m1, Kp, cut, free, b, rfl, hG1.same s2J, fun HL l5 sL nl5 gl5 => ?_⟩
        have s2L := s2J.trans sL
        have fpos : 0 < free.length := by
          refine List.length_pos_iff.mpr fun e => nover ?_
          subst e
          have hcl := cl_clo (fld_mem PR.o.fo.cop.ok.fp) T1.vec
          by_cases mk : Made T1 g Kp
          · exact .inl mk
          · exact .inr fun c => mk (hcl.mono (fun x hx => hx.elim id fun h => by simp at h) c)
        have nl5s : l5 ≠ src := fun e => by rw [e, s2J _ _ gsrcW] at nl5; cases nl5
        refine ⟨src, l5, 200 * i + 110 - free.length, _, rfl, hSW.same s2L, by omega, gl5, nl5s, by rw [List.length_map]; exact fpos, by rw [List.length_map]; omega, fun HM d v bM hSM hv => ?_⟩
        obtain ⟨row, hrow, rfl⟩ := ix_at hv
        have hrf := List.mem_of_getElem? hrow
        obtain ⟨gM1, aM1⟩ := (hG1.same s2L).src (ap1.like (by obtain ⟨_, _, _, _, e, _⟩ := hG1.mo; rw [s2L _ _ e, e])) (hSW.same s2L) bM
        obtain ⟨gM2, aM2⟩ := (hG2.same s2L).src (ap2.like (by obtain ⟨_, _, _, _, e, _⟩ := hG2.mo; rw [s2L _ _ e, e])) (hSW.same s2L) bM
        have habM : AboAt P w HM abo := habW.keep (bM := fun o e => bM _ _ (s2L _ _ e) fun q => by obtain ⟨_, _, h⟩ := habW; rw [q, gsrcW] at h; cases h)
        obtain ⟨dh1, nl1', j1, ns1, gh1, _⟩ := id gM1.ob
        obtain ⟨dh2, nl2', j2, ns2, gh2, _⟩ := id gM2.ob
        obtain ⟨gS3, gsd3, gc3, gsrcM, gsrcM'⟩ := id hSM
        have nsg1 : gm1 ≠ src := fun e => by rw [e, gsrcM] at gh1; cases gh1
        have nsg2 : gm2 ≠ src := fun e => by rw [e, gsrcM] at gh2; cases gh2
        -- both take it
        refine ⟨_, rfl, gm1, dh1, _, rfl, gh1, rfl, _, rfl, gm1, t1', T1, g, m1, Kp, cut, free, b, row, rfl, gM1, PR.o, nover, hrf, fun HN n1 Kp2 cut2 c1' bN gN1 nx1 hcv1 apN => ?_⟩
        have gN2 := gM2.other gh1 gne.symm bN
        have aN2 : MoAp a HN m2 src := aM2.like (by obtain ⟨_, _, _, _, e, _⟩ := gM2.mo; obtain ⟨_, _, _, _, e', _⟩ := gN2.mo; rw [e, bN _ _ e (not_gm e gh1)])
        obtain ⟨dk2, nk2', k2, ks2, gk2, _⟩ := id gN2.ob
        refine ⟨_, rfl, gm2, dk2, _, rfl, gk2, rfl, _, rfl, gm2, t2', T2, g, m2, Kp', cut', free, !b, row, rfl, gN2, PR.o', nover2, hrf, fun HP n2 Kp2' cut2' c2' bP gP2 nx2 hcv2 apP => ?_⟩
        have gP1 := gN1.other gk2 gne bP
        have PR2 := PR.next hrf nx1 nx2
        have ov2 := PR2.over tu
        have ecc : c1' = c2' := by rw [Bool.eq_iff_iff, hcv1, hcv2]; exact ov2
        have fl := free_less PR.o.fo.nf hrf
        refine ⟨rfl, _, rfl, itF (by rw [ecc]; cases c2' <;> decide) ?_⟩
        have aP1 : MoAp a HP n1 src := by
          have h := apN src _ gsrcM aM1
          exact h.like (by obtain ⟨_, _, _, _, e, _⟩ := gN1.mo; obtain ⟨_, _, _, _, e', _⟩ := gP1.mo; rw [e, bP _ _ e (not_gm e gk2)])
        have gsrcN := bN _ _ gsrcM nsg1.symm
        have aP2 := apP src _ gsrcN aN2
        refine ⟨_, ?_, n1, n2, Kp2, cut2, free.filter (fun k => k != row), Kp2', cut2', !b, _, rfl, gP1, by rw [Bool.not_not] at gP2 ⊢; exact gP2, PR2, aP1, aP2, ⟨gS3, gsd3, gc3, bP _ _ gsrcN nsg2.symm, gsrcM'.1, gsrcM'.2.1, gsrcM'.2.2.1, gsrcM'.2.2.2.1, by have := gsrcM'.2.2.2.2; omega⟩, ?_, rfl⟩
        · omega
        · have habN := habM.keep (bM := fun o e => bN _ _ e fun q => by obtain ⟨_, _, h⟩ := habM; rw [q, gh1] at h; cases h)
          exact habN.keep (bM := fun o e => bP _ _ e fun q => by obtain ⟨_, _, h⟩ := habN; rw [q, gk2] at h; cases h)
    · obtain ⟨y2, y3, y4, y5, y6, y7, y8, y9, rfl, hS2⟩ := hQ
      exact q _
end
end FL
/-! What the top has written, gathered (printed by head.py). -/
set_option Elab.async false
set_option linter.all false
set_option maxRecDepth 100000
set_option maxHeartbeats 8000000
namespace FL
open PySem PySem.Spec PyProof.Rows L2
theorem all_mk {P : Program} {w : World} {K : PySem.W.Frag} {h : Heap} {mg : Str → Option Value} {fa : Addr} (X : K.In h) (G : h.Ns mainGlobals mg) (hfa : mg "law" = some (.ref fa))
    {f_is_list : Addr} {od_is_list an_is_list : Option Addr} {sl_is_list : Array (Option Value)} {oc_is_list kV_is_list dc_is_list pm_is_list cd_is_list ct_is_list : Value}
    {f_is_integer : Addr} {od_is_integer an_is_integer : Option Addr} {sl_is_integer : Array (Option Value)} {oc_is_integer kV_is_integer dc_is_integer pm_is_integer cd_is_integer ct_is_integer : Value}
    {f_is_below : Addr} {od_is_below an_is_below : Option Addr} {sl_is_below : Array (Option Value)} {oc_is_below kV_is_below dc_is_below pm_is_below cd_is_below ct_is_below : Value}
    {f_greatest_divisor : Addr} {od_greatest_divisor an_greatest_divisor : Option Addr} {sl_greatest_divisor : Array (Option Value)} {oc_greatest_divisor kV_greatest_divisor dc_greatest_divisor pm_greatest_divisor cd_greatest_divisor ct_greatest_divisor : Value}
    {f_leaned : Addr} {od_leaned an_leaned : Option Addr} {sl_leaned : Array (Option Value)} {oc_leaned kV_leaned dc_leaned pm_leaned cd_leaned ct_leaned : Value}
    {f_Places_init : Addr} {od_Places_init an_Places_init : Option Addr} {sl_Places_init : Array (Option Value)} {oc_Places_init kV_Places_init dc_Places_init pm_Places_init cd_Places_init ct_Places_init : Value}
    {f_Places_steps_to : Addr} {od_Places_steps_to an_Places_steps_to : Option Addr} {sl_Places_steps_to : Array (Option Value)} {oc_Places_steps_to kV_Places_steps_to dc_Places_steps_to pm_Places_steps_to cd_Places_steps_to ct_Places_steps_to : Value}
    {f_Places_reached_from : Addr} {od_Places_reached_from an_Places_reached_from : Option Addr} {sl_Places_reached_from : Array (Option Value)} {oc_Places_reached_from kV_Places_reached_from dc_Places_reached_from pm_Places_reached_from cd_Places_reached_from ct_Places_reached_from : Value}
    {f_Places_put : Addr} {od_Places_put an_Places_put : Option Addr} {sl_Places_put : Array (Option Value)} {oc_Places_put kV_Places_put dc_Places_put pm_Places_put cd_Places_put ct_Places_put : Value}
    {f_Places_told : Addr} {od_Places_told an_Places_told : Option Addr} {sl_Places_told : Array (Option Value)} {oc_Places_told kV_Places_told dc_Places_told pm_Places_told cd_Places_told ct_Places_told : Value}
    {f_Copies_init : Addr} {od_Copies_init an_Copies_init : Option Addr} {sl_Copies_init : Array (Option Value)} {oc_Copies_init kV_Copies_init dc_Copies_init pm_Copies_init cd_Copies_init ct_Copies_init : Value}
    {f_Copies_base_of : Addr} {od_Copies_base_of an_Copies_base_of : Option Addr} {sl_Copies_base_of : Array (Option Value)} {oc_Copies_base_of kV_Copies_base_of dc_Copies_base_of pm_Copies_base_of cd_Copies_base_of ct_Copies_base_of : Value}
    {f_CopiesBase_init : Addr} {od_CopiesBase_init an_CopiesBase_init : Option Addr} {sl_CopiesBase_init : Array (Option Value)} {oc_CopiesBase_init kV_CopiesBase_init dc_CopiesBase_init pm_CopiesBase_init cd_CopiesBase_init ct_CopiesBase_init : Value}
    {f_CopiesBase_relation : Addr} {od_CopiesBase_relation an_CopiesBase_relation : Option Addr} {sl_CopiesBase_relation : Array (Option Value)} {oc_CopiesBase_relation kV_CopiesBase_relation dc_CopiesBase_relation pm_CopiesBase_relation cd_CopiesBase_relation ct_CopiesBase_relation : Value}
    {f_is_made : Addr} {od_is_made an_is_made : Option Addr} {sl_is_made : Array (Option Value)} {oc_is_made kV_is_made dc_is_made pm_is_made cd_is_made ct_is_made : Value}
    {f_two_lots : Addr} {od_two_lots an_two_lots : Option Addr} {sl_two_lots : Array (Option Value)} {oc_two_lots kV_two_lots dc_two_lots pm_two_lots cd_two_lots ct_two_lots : Value}
    {f_stuck : Addr} {od_stuck an_stuck : Option Addr} {sl_stuck : Array (Option Value)} {oc_stuck kV_stuck dc_stuck pm_stuck cd_stuck ct_stuck : Value}
    {f_hold_of : Addr} {od_hold_of an_hold_of : Option Addr} {sl_hold_of : Array (Option Value)} {oc_hold_of kV_hold_of dc_hold_of pm_hold_of cd_hold_of ct_hold_of : Value}
    {f_Moment_init : Addr} {od_Moment_init an_Moment_init : Option Addr} {sl_Moment_init : Array (Option Value)} {oc_Moment_init kV_Moment_init dc_Moment_init pm_Moment_init cd_Moment_init ct_Moment_init : Value}
    {f_Moment_behind : Addr} {od_Moment_behind an_Moment_behind : Option Addr} {sl_Moment_behind : Array (Option Value)} {oc_Moment_behind kV_Moment_behind dc_Moment_behind pm_Moment_behind cd_Moment_behind ct_Moment_behind : Value}
    {f_Game_init : Addr} {od_Game_init an_Game_init : Option Addr} {sl_Game_init : Array (Option Value)} {oc_Game_init kV_Game_init dc_Game_init pm_Game_init cd_Game_init ct_Game_init : Value}
    {f_Game_now : Addr} {od_Game_now an_Game_now : Option Addr} {sl_Game_now : Array (Option Value)} {oc_Game_now kV_Game_now dc_Game_now pm_Game_now cd_Game_now ct_Game_now : Value}
    {f_Game_free_rows : Addr} {od_Game_free_rows an_Game_free_rows : Option Addr} {sl_Game_free_rows : Array (Option Value)} {oc_Game_free_rows kV_Game_free_rows dc_Game_free_rows pm_Game_free_rows cd_Game_free_rows ct_Game_free_rows : Value}
    {f_Game_is_kept : Addr} {od_Game_is_kept an_Game_is_kept : Option Addr} {sl_Game_is_kept : Array (Option Value)} {oc_Game_is_kept kV_Game_is_kept dc_Game_is_kept pm_Game_is_kept cd_Game_is_kept ct_Game_is_kept : Value}
    {f_Game_is_lost : Addr} {od_Game_is_lost an_Game_is_lost : Option Addr} {sl_Game_is_lost : Array (Option Value)} {oc_Game_is_lost kV_Game_is_lost dc_Game_is_lost pm_Game_is_lost cd_Game_is_lost ct_Game_is_lost : Value}
    {f_Game_turn : Addr} {od_Game_turn an_Game_turn : Option Addr} {sl_Game_turn : Array (Option Value)} {oc_Game_turn kV_Game_turn dc_Game_turn pm_Game_turn cd_Game_turn ct_Game_turn : Value}
    {f_Game_winner_at : Addr} {od_Game_winner_at an_Game_winner_at : Option Addr} {sl_Game_winner_at : Array (Option Value)} {oc_Game_winner_at kV_Game_winner_at dc_Game_winner_at pm_Game_winner_at cd_Game_winner_at ct_Game_winner_at : Value}
    {f_Game_winner : Addr} {od_Game_winner an_Game_winner : Option Addr} {sl_Game_winner : Array (Option Value)} {oc_Game_winner kV_Game_winner dc_Game_winner pm_Game_winner cd_Game_winner ct_Game_winner : Value}
    {f_Game_winning : Addr} {od_Game_winning an_Game_winning : Option Addr} {sl_Game_winning : Array (Option Value)} {oc_Game_winning kV_Game_winning dc_Game_winning pm_Game_winning cd_Game_winning ct_Game_winning : Value}
    {f_Game_take : Addr} {od_Game_take an_Game_take : Option Addr} {sl_Game_take : Array (Option Value)} {oc_Game_take kV_Game_take dc_Game_take pm_Game_take cd_Game_take ct_Game_take : Value}
    {f_is_row : Addr} {od_is_row an_is_row : Option Addr} {sl_is_row : Array (Option Value)} {oc_is_row kV_is_row dc_is_row pm_is_row cd_is_row ct_is_row : Value}
    {f_width_of : Addr} {od_width_of an_width_of : Option Addr} {sl_width_of : Array (Option Value)} {oc_width_of kV_width_of dc_width_of pm_width_of cd_width_of ct_width_of : Value}
    {f_Base_init : Addr} {od_Base_init an_Base_init : Option Addr} {sl_Base_init : Array (Option Value)} {oc_Base_init kV_Base_init dc_Base_init pm_Base_init cd_Base_init ct_Base_init : Value}
    {f_Base_left_of : Addr} {od_Base_left_of an_Base_left_of : Option Addr} {sl_Base_left_of : Array (Option Value)} {oc_Base_left_of kV_Base_left_of dc_Base_left_of pm_Base_left_of cd_Base_left_of ct_Base_left_of : Value}
    {f_Base_relation : Addr} {od_Base_relation an_Base_relation : Option Addr} {sl_Base_relation : Array (Option Value)} {oc_Base_relation kV_Base_relation dc_Base_relation pm_Base_relation cd_Base_relation ct_Base_relation : Value}
    {f_Base_add : Addr} {od_Base_add an_Base_add : Option Addr} {sl_Base_add : Array (Option Value)} {oc_Base_add kV_Base_add dc_Base_add pm_Base_add cd_Base_add ct_Base_add : Value}
    {f_Rows_init : Addr} {od_Rows_init an_Rows_init : Option Addr} {sl_Rows_init : Array (Option Value)} {oc_Rows_init kV_Rows_init dc_Rows_init pm_Rows_init cd_Rows_init ct_Rows_init : Value}
    {f_Rows_field : Addr} {od_Rows_field an_Rows_field : Option Addr} {sl_Rows_field : Array (Option Value)} {oc_Rows_field kV_Rows_field dc_Rows_field pm_Rows_field cd_Rows_field ct_Rows_field : Value}
    {f_Rows_len : Addr} {od_Rows_len an_Rows_len : Option Addr} {sl_Rows_len : Array (Option Value)} {oc_Rows_len kV_Rows_len dc_Rows_len pm_Rows_len cd_Rows_len ct_Rows_len : Value}
    {f_Rows_row_at : Addr} {od_Rows_row_at an_Rows_row_at : Option Addr} {sl_Rows_row_at : Array (Option Value)} {oc_Rows_row_at kV_Rows_row_at dc_Rows_row_at pm_Rows_row_at cd_Rows_row_at ct_Rows_row_at : Value}
    {f_Rows_base_of : Addr} {od_Rows_base_of an_Rows_base_of : Option Addr} {sl_Rows_base_of : Array (Option Value)} {oc_Rows_base_of kV_Rows_base_of dc_Rows_base_of pm_Rows_base_of cd_Rows_base_of ct_Rows_base_of : Value}
    {f__law_source : Addr} {od__law_source an__law_source : Option Addr} {sl__law_source : Array (Option Value)} {oc__law_source kV__law_source dc__law_source pm__law_source cd__law_source ct__law_source : Value}
    {f__law_draw : Addr} {od__law_draw an__law_draw : Option Addr} {sl__law_draw : Array (Option Value)} {oc__law_draw kV__law_draw dc__law_draw pm__law_draw cd__law_draw ct__law_draw : Value}
    {f__law_pick : Addr} {od__law_pick an__law_pick : Option Addr} {sl__law_pick : Array (Option Value)} {oc__law_pick kV__law_pick dc__law_pick pm__law_pick cd__law_pick ct__law_pick : Value}
    {f__law_field : Addr} {od__law_field an__law_field : Option Addr} {sl__law_field : Array (Option Value)} {oc__law_field kV__law_field dc__law_field pm__law_field cd__law_field ct__law_field : Value}
    {f__law_rows : Addr} {od__law_rows an__law_rows : Option Addr} {sl__law_rows : Array (Option Value)} {oc__law_rows kV__law_rows dc__law_rows pm__law_rows cd__law_rows ct__law_rows : Value}
    {f__law_made : Addr} {od__law_made an__law_made : Option Addr} {sl__law_made : Array (Option Value)} {oc__law_made kV__law_made dc__law_made pm__law_made cd__law_made ct__law_made : Value}
    {f__law_divisor : Addr} {od__law_divisor an__law_divisor : Option Addr} {sl__law_divisor : Array (Option Value)} {oc__law_divisor kV__law_divisor dc__law_divisor pm__law_divisor cd__law_divisor ct__law_divisor : Value}
    {f__law_game : Addr} {od__law_game an__law_game : Option Addr} {sl__law_game : Array (Option Value)} {oc__law_game kV__law_game dc__law_game pm__law_game cd__law_game ct__law_game : Value}
    {f__law_columns : Addr} {od__law_columns an__law_columns : Option Addr} {sl__law_columns : Array (Option Value)} {oc__law_columns kV__law_columns dc__law_columns pm__law_columns cd__law_columns ct__law_columns : Value}
    {f__law_less : Addr} {od__law_less an__law_less : Option Addr} {sl__law_less : Array (Option Value)} {oc__law_less kV__law_less dc__law_less pm__law_less cd__law_less ct__law_less : Value}
    {f__law_lean : Addr} {od__law_lean an__law_lean : Option Addr} {sl__law_lean : Array (Option Value)} {oc__law_lean kV__law_lean dc__law_lean pm__law_lean cd__law_lean ct__law_lean : Value}
    {f__law_turned : Addr} {od__law_turned an__law_turned : Option Addr} {sl__law_turned : Array (Option Value)} {oc__law_turned kV__law_turned dc__law_turned pm__law_turned cd__law_turned ct__law_turned : Value}
    {f_law : Addr} {od_law an_law : Option Addr} {sl_law : Array (Option Value)} {oc_law kV_law dc_law pm_law cd_law ct_law : Value}
    {C_Places C_Copies C_CopiesBase C_Moment C_Game C_Base C_Rows pF FI TD : Addr} {tKE tCU tMR tMW tD t0 t1 t2 t3 t4 t5 t6 : Tok} {odT odF : Option Addr} {ocT : Value} {nD nF : Nat} {slT slF : Array (Option Value)} {restF : List Value}
    (a_Places : PySem.W.nsIn K mainGlobals "Places" = some (some (.ref C_Places)))
    (a_Copies : PySem.W.nsIn K mainGlobals "Copies" = some (some (.ref C_Copies)))
    (a_CopiesBase : PySem.W.nsIn K mainGlobals "CopiesBase" = some (some (.ref C_CopiesBase)))
    (a_Moment : PySem.W.nsIn K mainGlobals "Moment" = some (some (.ref C_Moment)))
    (a_Game : PySem.W.nsIn K mainGlobals "Game" = some (some (.ref C_Game)))
    (a_Base : PySem.W.nsIn K mainGlobals "Base" = some (some (.ref C_Base)))
    (a_Rows : PySem.W.nsIn K mainGlobals "Rows" = some (some (.ref C_Rows)))
    (q_is_list : PySem.W.nsIn K mainGlobals "is_list" = some (some (.ref f_is_list)))
    (l_is_list : K.lookup f_is_list = some ⟨oc_is_list, od_is_list, .func (PySem.W.fnOf "is_list" "is_list" (defArgs s_is_list) (defBody s_is_list) (defScope s_is_list) .none kV_is_list dc_is_list pm_is_list an_is_list cd_is_list ct_is_list), sl_is_list⟩)
    (c_is_list : PySem.W.codeIn K cd_is_list "is_list" = true)
    (k_is_list : PySem.W.keepIn K (.ref f_is_list) = true)
    (q_is_integer : PySem.W.nsIn K mainGlobals "is_integer" = some (some (.ref f_is_integer)))
    (l_is_integer : K.lookup f_is_integer = some ⟨oc_is_integer, od_is_integer, .func (PySem.W.fnOf "is_integer" "is_integer" (defArgs s_is_integer) (defBody s_is_integer) (defScope s_is_integer) .none kV_is_integer dc_is_integer pm_is_integer an_is_integer cd_is_integer ct_is_integer), sl_is_integer⟩)
    (c_is_integer : PySem.W.codeIn K cd_is_integer "is_integer" = true)
    (k_is_integer : PySem.W.keepIn K (.ref f_is_integer) = true)
    (q_is_below : PySem.W.nsIn K mainGlobals "is_below" = some (some (.ref f_is_below)))
    (l_is_below : K.lookup f_is_below = some ⟨oc_is_below, od_is_below, .func (PySem.W.fnOf "is_below" "is_below" (defArgs s_is_below) (defBody s_is_below) (defScope s_is_below) .none kV_is_below dc_is_below pm_is_below an_is_below cd_is_below ct_is_below), sl_is_below⟩)
    (c_is_below : PySem.W.codeIn K cd_is_below "is_below" = true)
    (k_is_below : PySem.W.keepIn K (.ref f_is_below) = true)
    (q_greatest_divisor : PySem.W.nsIn K mainGlobals "greatest_divisor" = some (some (.ref f_greatest_divisor)))
    (l_greatest_divisor : K.lookup f_greatest_divisor = some ⟨oc_greatest_divisor, od_greatest_divisor, .func (PySem.W.fnOf "greatest_divisor" "greatest_divisor" (defArgs s_greatest_divisor) (defBody s_greatest_divisor) (defScope s_greatest_divisor) .none kV_greatest_divisor dc_greatest_divisor pm_greatest_divisor an_greatest_divisor cd_greatest_divisor ct_greatest_divisor), sl_greatest_divisor⟩)
    (c_greatest_divisor : PySem.W.codeIn K cd_greatest_divisor "greatest_divisor" = true)
    (k_greatest_divisor : PySem.W.keepIn K (.ref f_greatest_divisor) = true)
    (q_leaned : PySem.W.nsIn K mainGlobals "leaned" = some (some (.ref f_leaned)))
    (l_leaned : K.lookup f_leaned = some ⟨oc_leaned, od_leaned, .func (PySem.W.fnOf "leaned" "leaned" (defArgs s_leaned) (defBody s_leaned) (defScope s_leaned) .none kV_leaned dc_leaned pm_leaned an_leaned cd_leaned ct_leaned), sl_leaned⟩)
    (c_leaned : PySem.W.codeIn K cd_leaned "leaned" = true)
    (k_leaned : PySem.W.keepIn K (.ref f_leaned) = true)
    (q_Places_init : PySem.W.findIn K (.ref C_Places) "__init__" = some (some (.ref f_Places_init)))
    (i_Places_init : PySem.W.isFn K (.ref f_Places_init) = true)
    (l_Places_init : K.lookup f_Places_init = some ⟨oc_Places_init, od_Places_init, .func (PySem.W.fnOf "__init__" "Places.__init__" (defArgs s_Places_init) (defBody s_Places_init) (defScope s_Places_init) .none kV_Places_init dc_Places_init pm_Places_init an_Places_init cd_Places_init ct_Places_init), sl_Places_init⟩)
    (c_Places_init : PySem.W.codeIn K cd_Places_init "Places.__init__" = true)
    (k_Places_init : PySem.W.keepIn K (.ref f_Places_init) = true)
    (q_Places_steps_to : PySem.W.findIn K (.ref C_Places) "steps_to" = some (some (.ref f_Places_steps_to)))
    (i_Places_steps_to : PySem.W.isFn K (.ref f_Places_steps_to) = true)
    (l_Places_steps_to : K.lookup f_Places_steps_to = some ⟨oc_Places_steps_to, od_Places_steps_to, .func (PySem.W.fnOf "steps_to" "Places.steps_to" (defArgs s_Places_steps_to) (defBody s_Places_steps_to) (defScope s_Places_steps_to) .none kV_Places_steps_to dc_Places_steps_to pm_Places_steps_to an_Places_steps_to cd_Places_steps_to ct_Places_steps_to), sl_Places_steps_to⟩)
    (c_Places_steps_to : PySem.W.codeIn K cd_Places_steps_to "Places.steps_to" = true)
    (k_Places_steps_to : PySem.W.keepIn K (.ref f_Places_steps_to) = true)
    (q_Places_reached_from : PySem.W.findIn K (.ref C_Places) "reached_from" = some (some (.ref f_Places_reached_from)))
    (i_Places_reached_from : PySem.W.isFn K (.ref f_Places_reached_from) = true)
    (l_Places_reached_from : K.lookup f_Places_reached_from = some ⟨oc_Places_reached_from, od_Places_reached_from, .func (PySem.W.fnOf "reached_from" "Places.reached_from" (defArgs s_Places_reached_from) (defBody s_Places_reached_from) (defScope s_Places_reached_from) .none kV_Places_reached_from dc_Places_reached_from pm_Places_reached_from an_Places_reached_from cd_Places_reached_from ct_Places_reached_from), sl_Places_reached_from⟩)
    (c_Places_reached_from : PySem.W.codeIn K cd_Places_reached_from "Places.reached_from" = true)
    (k_Places_reached_from : PySem.W.keepIn K (.ref f_Places_reached_from) = true)
    (q_Places_put : PySem.W.findIn K (.ref C_Places) "put" = some (some (.ref f_Places_put)))
    (i_Places_put : PySem.W.isFn K (.ref f_Places_put) = true)
    (l_Places_put : K.lookup f_Places_put = some ⟨oc_Places_put, od_Places_put, .func (PySem.W.fnOf "put" "Places.put" (defArgs s_Places_put) (defBody s_Places_put) (defScope s_Places_put) .none kV_Places_put dc_Places_put pm_Places_put an_Places_put cd_Places_put ct_Places_put), sl_Places_put⟩)
    (c_Places_put : PySem.W.codeIn K cd_Places_put "Places.put" = true)
    (k_Places_put : PySem.W.keepIn K (.ref f_Places_put) = true)
    (q_Places_told : PySem.W.findIn K (.ref C_Places) "told" = some (some (.ref f_Places_told)))
    (i_Places_told : PySem.W.isFn K (.ref f_Places_told) = true)
    (l_Places_told : K.lookup f_Places_told = some ⟨oc_Places_told, od_Places_told, .func (PySem.W.fnOf "told" "Places.told" (defArgs s_Places_told) (defBody s_Places_told) (defScope s_Places_told) .none kV_Places_told dc_Places_told pm_Places_told an_Places_told cd_Places_told ct_Places_told), sl_Places_told⟩)
    (c_Places_told : PySem.W.codeIn K cd_Places_told "Places.told" = true)
    (k_Places_told : PySem.W.keepIn K (.ref f_Places_told) = true)
    (q_Copies_init : PySem.W.findIn K (.ref C_Copies) "__init__" = some (some (.ref f_Copies_init)))
    (i_Copies_init : PySem.W.isFn K (.ref f_Copies_init) = true)
    (l_Copies_init : K.lookup f_Copies_init = some ⟨oc_Copies_init, od_Copies_init, .func (PySem.W.fnOf "__init__" "Copies.__init__" (defArgs s_Copies_init) (defBody s_Copies_init) (defScope s_Copies_init) .none kV_Copies_init dc_Copies_init pm_Copies_init an_Copies_init cd_Copies_init ct_Copies_init), sl_Copies_init⟩)
    (c_Copies_init : PySem.W.codeIn K cd_Copies_init "Copies.__init__" = true)
    (k_Copies_init : PySem.W.keepIn K (.ref f_Copies_init) = true)
    (q_Copies_base_of : PySem.W.findIn K (.ref C_Copies) "base_of" = some (some (.ref f_Copies_base_of)))
    (i_Copies_base_of : PySem.W.isFn K (.ref f_Copies_base_of) = true)
    (l_Copies_base_of : K.lookup f_Copies_base_of = some ⟨oc_Copies_base_of, od_Copies_base_of, .func (PySem.W.fnOf "base_of" "Copies.base_of" (defArgs s_Copies_base_of) (defBody s_Copies_base_of) (defScope s_Copies_base_of) .none kV_Copies_base_of dc_Copies_base_of pm_Copies_base_of an_Copies_base_of cd_Copies_base_of ct_Copies_base_of), sl_Copies_base_of⟩)
    (c_Copies_base_of : PySem.W.codeIn K cd_Copies_base_of "Copies.base_of" = true)
    (k_Copies_base_of : PySem.W.keepIn K (.ref f_Copies_base_of) = true)
    (q_CopiesBase_init : PySem.W.findIn K (.ref C_CopiesBase) "__init__" = some (some (.ref f_CopiesBase_init)))
    (i_CopiesBase_init : PySem.W.isFn K (.ref f_CopiesBase_init) = true)
    (l_CopiesBase_init : K.lookup f_CopiesBase_init = some ⟨oc_CopiesBase_init, od_CopiesBase_init, .func (PySem.W.fnOf "__init__" "CopiesBase.__init__" (defArgs s_CopiesBase_init) (defBody s_CopiesBase_init) (defScope s_CopiesBase_init) .none kV_CopiesBase_init dc_CopiesBase_init pm_CopiesBase_init an_CopiesBase_init cd_CopiesBase_init ct_CopiesBase_init), sl_CopiesBase_init⟩)
    (c_CopiesBase_init : PySem.W.codeIn K cd_CopiesBase_init "CopiesBase.__init__" = true)
    (k_CopiesBase_init : PySem.W.keepIn K (.ref f_CopiesBase_init) = true)
    (q_CopiesBase_relation : PySem.W.findIn K (.ref C_CopiesBase) "relation" = some (some (.ref f_CopiesBase_relation)))
    (i_CopiesBase_relation : PySem.W.isFn K (.ref f_CopiesBase_relation) = true)
    (l_CopiesBase_relation : K.lookup f_CopiesBase_relation = some ⟨oc_CopiesBase_relation, od_CopiesBase_relation, .func (PySem.W.fnOf "relation" "CopiesBase.relation" (defArgs s_CopiesBase_relation) (defBody s_CopiesBase_relation) (defScope s_CopiesBase_relation) .none kV_CopiesBase_relation dc_CopiesBase_relation pm_CopiesBase_relation an_CopiesBase_relation cd_CopiesBase_relation ct_CopiesBase_relation), sl_CopiesBase_relation⟩)
    (c_CopiesBase_relation : PySem.W.codeIn K cd_CopiesBase_relation "CopiesBase.relation" = true)
    (k_CopiesBase_relation : PySem.W.keepIn K (.ref f_CopiesBase_relation) = true)
    (q_is_made : PySem.W.nsIn K mainGlobals "is_made" = some (some (.ref f_is_made)))
    (l_is_made : K.lookup f_is_made = some ⟨oc_is_made, od_is_made, .func (PySem.W.fnOf "is_made" "is_made" (defArgs s_is_made) (defBody s_is_made) (defScope s_is_made) .none kV_is_made dc_is_made pm_is_made an_is_made cd_is_made ct_is_made), sl_is_made⟩)
    (c_is_made : PySem.W.codeIn K cd_is_made "is_made" = true)
    (k_is_made : PySem.W.keepIn K (.ref f_is_made) = true)
    (q_two_lots : PySem.W.nsIn K mainGlobals "two_lots" = some (some (.ref f_two_lots)))
    (l_two_lots : K.lookup f_two_lots = some ⟨oc_two_lots, od_two_lots, .func (PySem.W.fnOf "two_lots" "two_lots" (defArgs s_two_lots) (defBody s_two_lots) (defScope s_two_lots) .none kV_two_lots dc_two_lots pm_two_lots an_two_lots cd_two_lots ct_two_lots), sl_two_lots⟩)
    (c_two_lots : PySem.W.codeIn K cd_two_lots "two_lots" = true)
    (k_two_lots : PySem.W.keepIn K (.ref f_two_lots) = true)
    (q_stuck : PySem.W.nsIn K mainGlobals "stuck" = some (some (.ref f_stuck)))
    (l_stuck : K.lookup f_stuck = some ⟨oc_stuck, od_stuck, .func (PySem.W.fnOf "stuck" "stuck" (defArgs s_stuck) (defBody s_stuck) (defScope s_stuck) .none kV_stuck dc_stuck pm_stuck an_stuck cd_stuck ct_stuck), sl_stuck⟩)
    (c_stuck : PySem.W.codeIn K cd_stuck "stuck" = true)
    (k_stuck : PySem.W.keepIn K (.ref f_stuck) = true)
    (q_hold_of : PySem.W.nsIn K mainGlobals "hold_of" = some (some (.ref f_hold_of)))
    (l_hold_of : K.lookup f_hold_of = some ⟨oc_hold_of, od_hold_of, .func (PySem.W.fnOf "hold_of" "hold_of" (defArgs s_hold_of) (defBody s_hold_of) (defScope s_hold_of) .none kV_hold_of dc_hold_of pm_hold_of an_hold_of cd_hold_of ct_hold_of), sl_hold_of⟩)
    (c_hold_of : PySem.W.codeIn K cd_hold_of "hold_of" = true)
    (k_hold_of : PySem.W.keepIn K (.ref f_hold_of) = true)
    (q_Moment_init : PySem.W.findIn K (.ref C_Moment) "__init__" = some (some (.ref f_Moment_init)))
    (i_Moment_init : PySem.W.isFn K (.ref f_Moment_init) = true)
    (l_Moment_init : K.lookup f_Moment_init = some ⟨oc_Moment_init, od_Moment_init, .func (PySem.W.fnOf "__init__" "Moment.__init__" (defArgs s_Moment_init) (defBody s_Moment_init) (defScope s_Moment_init) .none kV_Moment_init dc_Moment_init pm_Moment_init an_Moment_init cd_Moment_init ct_Moment_init), sl_Moment_init⟩)
    (c_Moment_init : PySem.W.codeIn K cd_Moment_init "Moment.__init__" = true)
    (k_Moment_init : PySem.W.keepIn K (.ref f_Moment_init) = true)
    (q_Moment_behind : PySem.W.findIn K (.ref C_Moment) "behind" = some (some (.ref f_Moment_behind)))
    (i_Moment_behind : PySem.W.isFn K (.ref f_Moment_behind) = true)
    (l_Moment_behind : K.lookup f_Moment_behind = some ⟨oc_Moment_behind, od_Moment_behind, .func (PySem.W.fnOf "behind" "Moment.behind" (defArgs s_Moment_behind) (defBody s_Moment_behind) (defScope s_Moment_behind) .none kV_Moment_behind dc_Moment_behind pm_Moment_behind an_Moment_behind cd_Moment_behind ct_Moment_behind), sl_Moment_behind⟩)
    (c_Moment_behind : PySem.W.codeIn K cd_Moment_behind "Moment.behind" = true)
    (k_Moment_behind : PySem.W.keepIn K (.ref f_Moment_behind) = true)
    (q_Game_init : PySem.W.findIn K (.ref C_Game) "__init__" = some (some (.ref f_Game_init)))
    (i_Game_init : PySem.W.isFn K (.ref f_Game_init) = true)
    (l_Game_init : K.lookup f_Game_init = some ⟨oc_Game_init, od_Game_init, .func (PySem.W.fnOf "__init__" "Game.__init__" (defArgs s_Game_init) (defBody s_Game_init) (defScope s_Game_init) .none kV_Game_init dc_Game_init pm_Game_init an_Game_init cd_Game_init ct_Game_init), sl_Game_init⟩)
    (c_Game_init : PySem.W.codeIn K cd_Game_init "Game.__init__" = true)
    (k_Game_init : PySem.W.keepIn K (.ref f_Game_init) = true)
    (q_Game_now : PySem.W.findIn K (.ref C_Game) "now" = some (some (.ref f_Game_now)))
    (i_Game_now : PySem.W.isFn K (.ref f_Game_now) = true)
    (l_Game_now : K.lookup f_Game_now = some ⟨oc_Game_now, od_Game_now, .func (PySem.W.fnOf "now" "Game.now" (defArgs s_Game_now) (defBody s_Game_now) (defScope s_Game_now) .none kV_Game_now dc_Game_now pm_Game_now an_Game_now cd_Game_now ct_Game_now), sl_Game_now⟩)
    (c_Game_now : PySem.W.codeIn K cd_Game_now "Game.now" = true)
    (k_Game_now : PySem.W.keepIn K (.ref f_Game_now) = true)
    (q_Game_free_rows : PySem.W.findIn K (.ref C_Game) "free_rows" = some (some (.ref f_Game_free_rows)))
    (i_Game_free_rows : PySem.W.isFn K (.ref f_Game_free_rows) = true)
    (l_Game_free_rows : K.lookup f_Game_free_rows = some ⟨oc_Game_free_rows, od_Game_free_rows, .func (PySem.W.fnOf "free_rows" "Game.free_rows" (defArgs s_Game_free_rows) (defBody s_Game_free_rows) (defScope s_Game_free_rows) .none kV_Game_free_rows dc_Game_free_rows pm_Game_free_rows an_Game_free_rows cd_Game_free_rows ct_Game_free_rows), sl_Game_free_rows⟩)
    (c_Game_free_rows : PySem.W.codeIn K cd_Game_free_rows "Game.free_rows" = true)
    (k_Game_free_rows : PySem.W.keepIn K (.ref f_Game_free_rows) = true)
    (q_Game_is_kept : PySem.W.findIn K (.ref C_Game) "is_kept" = some (some (.ref f_Game_is_kept)))
    (i_Game_is_kept : PySem.W.isFn K (.ref f_Game_is_kept) = true)
    (l_Game_is_kept : K.lookup f_Game_is_kept = some ⟨oc_Game_is_kept, od_Game_is_kept, .func (PySem.W.fnOf "is_kept" "Game.is_kept" (defArgs s_Game_is_kept) (defBody s_Game_is_kept) (defScope s_Game_is_kept) .none kV_Game_is_kept dc_Game_is_kept pm_Game_is_kept an_Game_is_kept cd_Game_is_kept ct_Game_is_kept), sl_Game_is_kept⟩)
    (c_Game_is_kept : PySem.W.codeIn K cd_Game_is_kept "Game.is_kept" = true)
    (k_Game_is_kept : PySem.W.keepIn K (.ref f_Game_is_kept) = true)
    (q_Game_is_lost : PySem.W.findIn K (.ref C_Game) "is_lost" = some (some (.ref f_Game_is_lost)))
    (i_Game_is_lost : PySem.W.isFn K (.ref f_Game_is_lost) = true)
    (l_Game_is_lost : K.lookup f_Game_is_lost = some ⟨oc_Game_is_lost, od_Game_is_lost, .func (PySem.W.fnOf "is_lost" "Game.is_lost" (defArgs s_Game_is_lost) (defBody s_Game_is_lost) (defScope s_Game_is_lost) .none kV_Game_is_lost dc_Game_is_lost pm_Game_is_lost an_Game_is_lost cd_Game_is_lost ct_Game_is_lost), sl_Game_is_lost⟩)
    (c_Game_is_lost : PySem.W.codeIn K cd_Game_is_lost "Game.is_lost" = true)
    (k_Game_is_lost : PySem.W.keepIn K (.ref f_Game_is_lost) = true)
    (q_Game_turn : PySem.W.findIn K (.ref C_Game) "turn" = some (some (.ref f_Game_turn)))
    (i_Game_turn : PySem.W.isFn K (.ref f_Game_turn) = true)
    (l_Game_turn : K.lookup f_Game_turn = some ⟨oc_Game_turn, od_Game_turn, .func (PySem.W.fnOf "turn" "Game.turn" (defArgs s_Game_turn) (defBody s_Game_turn) (defScope s_Game_turn) .none kV_Game_turn dc_Game_turn pm_Game_turn an_Game_turn cd_Game_turn ct_Game_turn), sl_Game_turn⟩)
    (c_Game_turn : PySem.W.codeIn K cd_Game_turn "Game.turn" = true)
    (k_Game_turn : PySem.W.keepIn K (.ref f_Game_turn) = true)
    (q_Game_winner_at : PySem.W.findIn K (.ref C_Game) "winner_at" = some (some (.ref f_Game_winner_at)))
    (i_Game_winner_at : PySem.W.isFn K (.ref f_Game_winner_at) = true)
    (l_Game_winner_at : K.lookup f_Game_winner_at = some ⟨oc_Game_winner_at, od_Game_winner_at, .func (PySem.W.fnOf "winner_at" "Game.winner_at" (defArgs s_Game_winner_at) (defBody s_Game_winner_at) (defScope s_Game_winner_at) .none kV_Game_winner_at dc_Game_winner_at pm_Game_winner_at an_Game_winner_at cd_Game_winner_at ct_Game_winner_at), sl_Game_winner_at⟩)
    (c_Game_winner_at : PySem.W.codeIn K cd_Game_winner_at "Game.winner_at" = true)
    (k_Game_winner_at : PySem.W.keepIn K (.ref f_Game_winner_at) = true)
    (q_Game_winner : PySem.W.findIn K (.ref C_Game) "winner" = some (some (.ref f_Game_winner)))
    (i_Game_winner : PySem.W.isFn K (.ref f_Game_winner) = true)
    (l_Game_winner : K.lookup f_Game_winner = some ⟨oc_Game_winner, od_Game_winner, .func (PySem.W.fnOf "winner" "Game.winner" (defArgs s_Game_winner) (defBody s_Game_winner) (defScope s_Game_winner) .none kV_Game_winner dc_Game_winner pm_Game_winner an_Game_winner cd_Game_winner ct_Game_winner), sl_Game_winner⟩)
    (c_Game_winner : PySem.W.codeIn K cd_Game_winner "Game.winner" = true)
    (k_Game_winner : PySem.W.keepIn K (.ref f_Game_winner) = true)
    (q_Game_winning : PySem.W.findIn K (.ref C_Game) "winning" = some (some (.ref f_Game_winning)))
    (i_Game_winning : PySem.W.isFn K (.ref f_Game_winning) = true)
    (l_Game_winning : K.lookup f_Game_winning = some ⟨oc_Game_winning, od_Game_winning, .func (PySem.W.fnOf "winning" "Game.winning" (defArgs s_Game_winning) (defBody s_Game_winning) (defScope s_Game_winning) .none kV_Game_winning dc_Game_winning pm_Game_winning an_Game_winning cd_Game_winning ct_Game_winning), sl_Game_winning⟩)
    (c_Game_winning : PySem.W.codeIn K cd_Game_winning "Game.winning" = true)
    (k_Game_winning : PySem.W.keepIn K (.ref f_Game_winning) = true)
    (q_Game_take : PySem.W.findIn K (.ref C_Game) "take" = some (some (.ref f_Game_take)))
    (i_Game_take : PySem.W.isFn K (.ref f_Game_take) = true)
    (l_Game_take : K.lookup f_Game_take = some ⟨oc_Game_take, od_Game_take, .func (PySem.W.fnOf "take" "Game.take" (defArgs s_Game_take) (defBody s_Game_take) (defScope s_Game_take) .none kV_Game_take dc_Game_take pm_Game_take an_Game_take cd_Game_take ct_Game_take), sl_Game_take⟩)
    (c_Game_take : PySem.W.codeIn K cd_Game_take "Game.take" = true)
    (k_Game_take : PySem.W.keepIn K (.ref f_Game_take) = true)
    (q_is_row : PySem.W.nsIn K mainGlobals "is_row" = some (some (.ref f_is_row)))
    (l_is_row : K.lookup f_is_row = some ⟨oc_is_row, od_is_row, .func (PySem.W.fnOf "is_row" "is_row" (defArgs s_is_row) (defBody s_is_row) (defScope s_is_row) .none kV_is_row dc_is_row pm_is_row an_is_row cd_is_row ct_is_row), sl_is_row⟩)
    (c_is_row : PySem.W.codeIn K cd_is_row "is_row" = true)
    (k_is_row : PySem.W.keepIn K (.ref f_is_row) = true)
    (q_width_of : PySem.W.nsIn K mainGlobals "width_of" = some (some (.ref f_width_of)))
    (l_width_of : K.lookup f_width_of = some ⟨oc_width_of, od_width_of, .func (PySem.W.fnOf "width_of" "width_of" (defArgs s_width_of) (defBody s_width_of) (defScope s_width_of) .none kV_width_of dc_width_of pm_width_of an_width_of cd_width_of ct_width_of), sl_width_of⟩)
    (c_width_of : PySem.W.codeIn K cd_width_of "width_of" = true)
    (k_width_of : PySem.W.keepIn K (.ref f_width_of) = true)
    (q_Base_init : PySem.W.findIn K (.ref C_Base) "__init__" = some (some (.ref f_Base_init)))
    (i_Base_init : PySem.W.isFn K (.ref f_Base_init) = true)
    (l_Base_init : K.lookup f_Base_init = some ⟨oc_Base_init, od_Base_init, .func (PySem.W.fnOf "__init__" "Base.__init__" (defArgs s_Base_init) (defBody s_Base_init) (defScope s_Base_init) .none kV_Base_init dc_Base_init pm_Base_init an_Base_init cd_Base_init ct_Base_init), sl_Base_init⟩)
    (c_Base_init : PySem.W.codeIn K cd_Base_init "Base.__init__" = true)
    (k_Base_init : PySem.W.keepIn K (.ref f_Base_init) = true)
    (q_Base_left_of : PySem.W.findIn K (.ref C_Base) "left_of" = some (some (.ref f_Base_left_of)))
    (i_Base_left_of : PySem.W.isFn K (.ref f_Base_left_of) = true)
    (l_Base_left_of : K.lookup f_Base_left_of = some ⟨oc_Base_left_of, od_Base_left_of, .func (PySem.W.fnOf "left_of" "Base.left_of" (defArgs s_Base_left_of) (defBody s_Base_left_of) (defScope s_Base_left_of) .none kV_Base_left_of dc_Base_left_of pm_Base_left_of an_Base_left_of cd_Base_left_of ct_Base_left_of), sl_Base_left_of⟩)
    (c_Base_left_of : PySem.W.codeIn K cd_Base_left_of "Base.left_of" = true)
    (k_Base_left_of : PySem.W.keepIn K (.ref f_Base_left_of) = true)
    (q_Base_relation : PySem.W.findIn K (.ref C_Base) "relation" = some (some (.ref f_Base_relation)))
    (i_Base_relation : PySem.W.isFn K (.ref f_Base_relation) = true)
    (l_Base_relation : K.lookup f_Base_relation = some ⟨oc_Base_relation, od_Base_relation, .func (PySem.W.fnOf "relation" "Base.relation" (defArgs s_Base_relation) (defBody s_Base_relation) (defScope s_Base_relation) .none kV_Base_relation dc_Base_relation pm_Base_relation an_Base_relation cd_Base_relation ct_Base_relation), sl_Base_relation⟩)
    (c_Base_relation : PySem.W.codeIn K cd_Base_relation "Base.relation" = true)
    (k_Base_relation : PySem.W.keepIn K (.ref f_Base_relation) = true)
    (q_Base_add : PySem.W.findIn K (.ref C_Base) "add" = some (some (.ref f_Base_add)))
    (i_Base_add : PySem.W.isFn K (.ref f_Base_add) = true)
    (l_Base_add : K.lookup f_Base_add = some ⟨oc_Base_add, od_Base_add, .func (PySem.W.fnOf "add" "Base.add" (defArgs s_Base_add) (defBody s_Base_add) (defScope s_Base_add) .none kV_Base_add dc_Base_add pm_Base_add an_Base_add cd_Base_add ct_Base_add), sl_Base_add⟩)
    (c_Base_add : PySem.W.codeIn K cd_Base_add "Base.add" = true)
    (k_Base_add : PySem.W.keepIn K (.ref f_Base_add) = true)
    (q_Rows_init : PySem.W.findIn K (.ref C_Rows) "__init__" = some (some (.ref f_Rows_init)))
    (i_Rows_init : PySem.W.isFn K (.ref f_Rows_init) = true)
    (l_Rows_init : K.lookup f_Rows_init = some ⟨oc_Rows_init, od_Rows_init, .func (PySem.W.fnOf "__init__" "Rows.__init__" (defArgs s_Rows_init) (defBody s_Rows_init) (defScope s_Rows_init) (.ref TD) kV_Rows_init dc_Rows_init pm_Rows_init an_Rows_init cd_Rows_init ct_Rows_init), sl_Rows_init⟩)
    (c_Rows_init : PySem.W.codeIn K cd_Rows_init "Rows.__init__" = true)
    (k_Rows_init : PySem.W.keepIn K (.ref f_Rows_init) = true)
    (pr1 : PySem.W.findIn K (.ref C_Rows) "field" = some (some (.ref pF)))
    (pr2 : PySem.W.specialIn K (.ref pF) "__get__" = some (some (.builtin "property.__get__")))
    (pr3 : PySem.W.takesIn K (.ref pF) = some true)
    (pr4 : PySem.W.recIn K pF "property" = some (.ref f_Rows_field :: restF))
    (l_Rows_field : K.lookup f_Rows_field = some ⟨oc_Rows_field, od_Rows_field, .func (PySem.W.fnOf "field" "Rows.field" (defArgs s_Rows_field) (defBody s_Rows_field) (defScope s_Rows_field) .none kV_Rows_field dc_Rows_field pm_Rows_field an_Rows_field cd_Rows_field ct_Rows_field), sl_Rows_field⟩)
    (c_Rows_field : PySem.W.codeIn K cd_Rows_field "Rows.field" = true)
    (k_Rows_field : PySem.W.keepIn K (.ref f_Rows_field) = true)
    (q_Rows_len : PySem.W.findIn K (.ref C_Rows) "__len__" = some (some (.ref f_Rows_len)))
    (i_Rows_len : PySem.W.isFn K (.ref f_Rows_len) = true)
    (l_Rows_len : K.lookup f_Rows_len = some ⟨oc_Rows_len, od_Rows_len, .func (PySem.W.fnOf "__len__" "Rows.__len__" (defArgs s_Rows_len) (defBody s_Rows_len) (defScope s_Rows_len) .none kV_Rows_len dc_Rows_len pm_Rows_len an_Rows_len cd_Rows_len ct_Rows_len), sl_Rows_len⟩)
    (c_Rows_len : PySem.W.codeIn K cd_Rows_len "Rows.__len__" = true)
    (k_Rows_len : PySem.W.keepIn K (.ref f_Rows_len) = true)
    (q_Rows_row_at : PySem.W.findIn K (.ref C_Rows) "row_at" = some (some (.ref f_Rows_row_at)))
    (i_Rows_row_at : PySem.W.isFn K (.ref f_Rows_row_at) = true)
    (l_Rows_row_at : K.lookup f_Rows_row_at = some ⟨oc_Rows_row_at, od_Rows_row_at, .func (PySem.W.fnOf "row_at" "Rows.row_at" (defArgs s_Rows_row_at) (defBody s_Rows_row_at) (defScope s_Rows_row_at) .none kV_Rows_row_at dc_Rows_row_at pm_Rows_row_at an_Rows_row_at cd_Rows_row_at ct_Rows_row_at), sl_Rows_row_at⟩)
    (c_Rows_row_at : PySem.W.codeIn K cd_Rows_row_at "Rows.row_at" = true)
    (k_Rows_row_at : PySem.W.keepIn K (.ref f_Rows_row_at) = true)
    (q_Rows_base_of : PySem.W.findIn K (.ref C_Rows) "base_of" = some (some (.ref f_Rows_base_of)))
    (i_Rows_base_of : PySem.W.isFn K (.ref f_Rows_base_of) = true)
    (l_Rows_base_of : K.lookup f_Rows_base_of = some ⟨oc_Rows_base_of, od_Rows_base_of, .func (PySem.W.fnOf "base_of" "Rows.base_of" (defArgs s_Rows_base_of) (defBody s_Rows_base_of) (defScope s_Rows_base_of) .none kV_Rows_base_of dc_Rows_base_of pm_Rows_base_of an_Rows_base_of cd_Rows_base_of ct_Rows_base_of), sl_Rows_base_of⟩)
    (c_Rows_base_of : PySem.W.codeIn K cd_Rows_base_of "Rows.base_of" = true)
    (k_Rows_base_of : PySem.W.keepIn K (.ref f_Rows_base_of) = true)
    (q__law_source : PySem.W.nsIn K mainGlobals "_law_source" = some (some (.ref f__law_source)))
    (l__law_source : K.lookup f__law_source = some ⟨oc__law_source, od__law_source, .func (PySem.W.fnOf "_law_source" "_law_source" (defArgs s__law_source) (defBody s__law_source) (defScope s__law_source) .none kV__law_source dc__law_source pm__law_source an__law_source cd__law_source ct__law_source), sl__law_source⟩)
    (c__law_source : PySem.W.codeIn K cd__law_source "_law_source" = true)
    (k__law_source : PySem.W.keepIn K (.ref f__law_source) = true)
    (q__law_draw : PySem.W.nsIn K mainGlobals "_law_draw" = some (some (.ref f__law_draw)))
    (l__law_draw : K.lookup f__law_draw = some ⟨oc__law_draw, od__law_draw, .func (PySem.W.fnOf "_law_draw" "_law_draw" (defArgs s__law_draw) (defBody s__law_draw) (defScope s__law_draw) .none kV__law_draw dc__law_draw pm__law_draw an__law_draw cd__law_draw ct__law_draw), sl__law_draw⟩)
    (c__law_draw : PySem.W.codeIn K cd__law_draw "_law_draw" = true)
    (k__law_draw : PySem.W.keepIn K (.ref f__law_draw) = true)
    (q__law_pick : PySem.W.nsIn K mainGlobals "_law_pick" = some (some (.ref f__law_pick)))
    (l__law_pick : K.lookup f__law_pick = some ⟨oc__law_pick, od__law_pick, .func (PySem.W.fnOf "_law_pick" "_law_pick" (defArgs s__law_pick) (defBody s__law_pick) (defScope s__law_pick) .none kV__law_pick dc__law_pick pm__law_pick an__law_pick cd__law_pick ct__law_pick), sl__law_pick⟩)
    (c__law_pick : PySem.W.codeIn K cd__law_pick "_law_pick" = true)
    (k__law_pick : PySem.W.keepIn K (.ref f__law_pick) = true)
    (q__law_field : PySem.W.nsIn K mainGlobals "_law_field" = some (some (.ref f__law_field)))
    (l__law_field : K.lookup f__law_field = some ⟨oc__law_field, od__law_field, .func (PySem.W.fnOf "_law_field" "_law_field" (defArgs s__law_field) (defBody s__law_field) (defScope s__law_field) .none kV__law_field dc__law_field pm__law_field an__law_field cd__law_field ct__law_field), sl__law_field⟩)
    (c__law_field : PySem.W.codeIn K cd__law_field "_law_field" = true)
    (k__law_field : PySem.W.keepIn K (.ref f__law_field) = true)
    (q__law_rows : PySem.W.nsIn K mainGlobals "_law_rows" = some (some (.ref f__law_rows)))
    (l__law_rows : K.lookup f__law_rows = some ⟨oc__law_rows, od__law_rows, .func (PySem.W.fnOf "_law_rows" "_law_rows" (defArgs s__law_rows) (defBody s__law_rows) (defScope s__law_rows) .none kV__law_rows dc__law_rows pm__law_rows an__law_rows cd__law_rows ct__law_rows), sl__law_rows⟩)
    (c__law_rows : PySem.W.codeIn K cd__law_rows "_law_rows" = true)
    (k__law_rows : PySem.W.keepIn K (.ref f__law_rows) = true)
    (q__law_made : PySem.W.nsIn K mainGlobals "_law_made" = some (some (.ref f__law_made)))
    (l__law_made : K.lookup f__law_made = some ⟨oc__law_made, od__law_made, .func (PySem.W.fnOf "_law_made" "_law_made" (defArgs s__law_made) (defBody s__law_made) (defScope s__law_made) .none kV__law_made dc__law_made pm__law_made an__law_made cd__law_made ct__law_made), sl__law_made⟩)
    (c__law_made : PySem.W.codeIn K cd__law_made "_law_made" = true)
    (k__law_made : PySem.W.keepIn K (.ref f__law_made) = true)
    (q__law_divisor : PySem.W.nsIn K mainGlobals "_law_divisor" = some (some (.ref f__law_divisor)))
    (l__law_divisor : K.lookup f__law_divisor = some ⟨oc__law_divisor, od__law_divisor, .func (PySem.W.fnOf "_law_divisor" "_law_divisor" (defArgs s__law_divisor) (defBody s__law_divisor) (defScope s__law_divisor) .none kV__law_divisor dc__law_divisor pm__law_divisor an__law_divisor cd__law_divisor ct__law_divisor), sl__law_divisor⟩)
    (c__law_divisor : PySem.W.codeIn K cd__law_divisor "_law_divisor" = true)
    (k__law_divisor : PySem.W.keepIn K (.ref f__law_divisor) = true)
    (q__law_game : PySem.W.nsIn K mainGlobals "_law_game" = some (some (.ref f__law_game)))
    (l__law_game : K.lookup f__law_game = some ⟨oc__law_game, od__law_game, .func (PySem.W.fnOf "_law_game" "_law_game" (defArgs s__law_game) (defBody s__law_game) (defScope s__law_game) .none kV__law_game dc__law_game pm__law_game an__law_game cd__law_game ct__law_game), sl__law_game⟩)
    (c__law_game : PySem.W.codeIn K cd__law_game "_law_game" = true)
    (k__law_game : PySem.W.keepIn K (.ref f__law_game) = true)
    (q__law_columns : PySem.W.nsIn K mainGlobals "_law_columns" = some (some (.ref f__law_columns)))
    (l__law_columns : K.lookup f__law_columns = some ⟨oc__law_columns, od__law_columns, .func (PySem.W.fnOf "_law_columns" "_law_columns" (defArgs s__law_columns) (defBody s__law_columns) (defScope s__law_columns) .none kV__law_columns dc__law_columns pm__law_columns an__law_columns cd__law_columns ct__law_columns), sl__law_columns⟩)
    (c__law_columns : PySem.W.codeIn K cd__law_columns "_law_columns" = true)
    (k__law_columns : PySem.W.keepIn K (.ref f__law_columns) = true)
    (q__law_less : PySem.W.nsIn K mainGlobals "_law_less" = some (some (.ref f__law_less)))
    (l__law_less : K.lookup f__law_less = some ⟨oc__law_less, od__law_less, .func (PySem.W.fnOf "_law_less" "_law_less" (defArgs s__law_less) (defBody s__law_less) (defScope s__law_less) .none kV__law_less dc__law_less pm__law_less an__law_less cd__law_less ct__law_less), sl__law_less⟩)
    (c__law_less : PySem.W.codeIn K cd__law_less "_law_less" = true)
    (k__law_less : PySem.W.keepIn K (.ref f__law_less) = true)
    (q__law_lean : PySem.W.nsIn K mainGlobals "_law_lean" = some (some (.ref f__law_lean)))
    (l__law_lean : K.lookup f__law_lean = some ⟨oc__law_lean, od__law_lean, .func (PySem.W.fnOf "_law_lean" "_law_lean" (defArgs s__law_lean) (defBody s__law_lean) (defScope s__law_lean) .none kV__law_lean dc__law_lean pm__law_lean an__law_lean cd__law_lean ct__law_lean), sl__law_lean⟩)
    (c__law_lean : PySem.W.codeIn K cd__law_lean "_law_lean" = true)
    (k__law_lean : PySem.W.keepIn K (.ref f__law_lean) = true)
    (q__law_turned : PySem.W.nsIn K mainGlobals "_law_turned" = some (some (.ref f__law_turned)))
    (l__law_turned : K.lookup f__law_turned = some ⟨oc__law_turned, od__law_turned, .func (PySem.W.fnOf "_law_turned" "_law_turned" (defArgs s__law_turned) (defBody s__law_turned) (defScope s__law_turned) .none kV__law_turned dc__law_turned pm__law_turned an__law_turned cd__law_turned ct__law_turned), sl__law_turned⟩)
    (c__law_turned : PySem.W.codeIn K cd__law_turned "_law_turned" = true)
    (k__law_turned : PySem.W.keepIn K (.ref f__law_turned) = true)
    (q_law : PySem.W.nsIn K mainGlobals "law" = some (some (.ref f_law)))
    (l_law : K.lookup f_law = some ⟨oc_law, od_law, .func (PySem.W.fnOf "law" "law" (defArgs s_law) (defBody s_law) (defScope s_law) .none kV_law dc_law pm_law an_law cd_law ct_law), sl_law⟩)
    (c_law : PySem.W.codeIn K cd_law "law" = true)
    (k_law : PySem.W.keepIn K (.ref f_law) = true)
    (lTD : K.lookup TD = some ⟨ocT, odT, .seq #[.int 0 tD] nD, slT⟩)
    (pg_Places : PySem.W.plainGet K C_Places Str.empty = true)
    (hd_Places : PySem.W.hasDictIn K C_Places = true)
    (po_Places : PySem.W.plainOver K C_Places = true)
    (sa_Places : PySem.W.findIn K (.ref C_Places) "__setattr__" = some (some (.builtin "object.__setattr__")))
    (mk_Places : PySem.W.makesIn K C_Places = true)
    (kc_Places : PySem.W.keepIn K (.ref C_Places) = true)
    (n_Places_tables : PySem.W.findIn K (.ref C_Places) "tables" = some none)
    (n_Places_sizes : PySem.W.findIn K (.ref C_Places) "sizes" = some none)
    (n_Places_kept : PySem.W.findIn K (.ref C_Places) "kept" = some none)
    (pg_Copies : PySem.W.plainGet K C_Copies Str.empty = true)
    (hd_Copies : PySem.W.hasDictIn K C_Copies = true)
    (po_Copies : PySem.W.plainOver K C_Copies = true)
    (sa_Copies : PySem.W.findIn K (.ref C_Copies) "__setattr__" = some (some (.builtin "object.__setattr__")))
    (mk_Copies : PySem.W.makesIn K C_Copies = true)
    (kc_Copies : PySem.W.keepIn K (.ref C_Copies) = true)
    (n_Copies_own_table : PySem.W.findIn K (.ref C_Copies) "own_table" = some none)
    (n_Copies_copied : PySem.W.findIn K (.ref C_Copies) "copied" = some none)
    (n_Copies_ahead : PySem.W.findIn K (.ref C_Copies) "ahead" = some none)
    (pg_CopiesBase : PySem.W.plainGet K C_CopiesBase Str.empty = true)
    (hd_CopiesBase : PySem.W.hasDictIn K C_CopiesBase = true)
    (po_CopiesBase : PySem.W.plainOver K C_CopiesBase = true)
    (sa_CopiesBase : PySem.W.findIn K (.ref C_CopiesBase) "__setattr__" = some (some (.builtin "object.__setattr__")))
    (mk_CopiesBase : PySem.W.makesIn K C_CopiesBase = true)
    (kc_CopiesBase : PySem.W.keepIn K (.ref C_CopiesBase) = true)
    (n_CopiesBase_copied : PySem.W.findIn K (.ref C_CopiesBase) "copied" = some none)
    (n_CopiesBase_thing_of : PySem.W.findIn K (.ref C_CopiesBase) "thing_of" = some none)
    (n_CopiesBase_base : PySem.W.findIn K (.ref C_CopiesBase) "base" = some none)
    (pg_Moment : PySem.W.plainGet K C_Moment Str.empty = true)
    (hd_Moment : PySem.W.hasDictIn K C_Moment = true)
    (po_Moment : PySem.W.plainOver K C_Moment = true)
    (sa_Moment : PySem.W.findIn K (.ref C_Moment) "__setattr__" = some (some (.builtin "object.__setattr__")))
    (mk_Moment : PySem.W.makesIn K C_Moment = true)
    (kc_Moment : PySem.W.keepIn K (.ref C_Moment) = true)
    (n_Moment_kept : PySem.W.findIn K (.ref C_Moment) "kept" = some none)
    (n_Moment_cut : PySem.W.findIn K (.ref C_Moment) "cut" = some none)
    (n_Moment_free : PySem.W.findIn K (.ref C_Moment) "free" = some none)
    (n_Moment_hand : PySem.W.findIn K (.ref C_Moment) "hand" = some none)
    (pg_Game : PySem.W.plainGet K C_Game Str.empty = true)
    (hd_Game : PySem.W.hasDictIn K C_Game = true)
    (po_Game : PySem.W.plainOver K C_Game = true)
    (sa_Game : PySem.W.findIn K (.ref C_Game) "__setattr__" = some (some (.builtin "object.__setattr__")))
    (mk_Game : PySem.W.makesIn K C_Game = true)
    (kc_Game : PySem.W.keepIn K (.ref C_Game) = true)
    (n_Game_own_table : PySem.W.findIn K (.ref C_Game) "own_table" = some none)
    (n_Game_own_goal : PySem.W.findIn K (.ref C_Game) "own_goal" = some none)
    (n_Game_moments : PySem.W.findIn K (.ref C_Game) "moments" = some none)
    (n_Game_at : PySem.W.findIn K (.ref C_Game) "at" = some none)
    (pg_Base : PySem.W.plainGet K C_Base Str.empty = true)
    (hd_Base : PySem.W.hasDictIn K C_Base = true)
    (po_Base : PySem.W.plainOver K C_Base = true)
    (sa_Base : PySem.W.findIn K (.ref C_Base) "__setattr__" = some (some (.builtin "object.__setattr__")))
    (mk_Base : PySem.W.makesIn K C_Base = true)
    (kc_Base : PySem.W.keepIn K (.ref C_Base) = true)
    (n_Base_own_table : PySem.W.findIn K (.ref C_Base) "own_table" = some none)
    (n_Base_steps : PySem.W.findIn K (.ref C_Base) "steps" = some none)
    (pg_Rows : PySem.W.plainGet K C_Rows Str.empty = true)
    (hd_Rows : PySem.W.hasDictIn K C_Rows = true)
    (po_Rows : PySem.W.plainOver K C_Rows = true)
    (sa_Rows : PySem.W.findIn K (.ref C_Rows) "__setattr__" = some (some (.builtin "object.__setattr__")))
    (mk_Rows : PySem.W.makesIn K C_Rows = true)
    (kc_Rows : PySem.W.keepIn K (.ref C_Rows) = true)
    (n_Rows_own_field : PySem.W.findIn K (.ref C_Rows) "own_field" = some none)
    (n_Rows_own_width : PySem.W.findIn K (.ref C_Rows) "own_width" = some none)
    (n_Rows_own_rows : PySem.W.findIn K (.ref C_Rows) "own_rows" = some none)
    (g_KEEP : PySem.W.nsIn K mainGlobals "KEEP" = some (some (.str ("keep" : Str) tKE)))
    (g_CUT : PySem.W.nsIn K mainGlobals "CUT" = some (some (.str ("cut" : Str) tCU)))
    (g_MR : PySem.W.nsIn K mainGlobals "MOST_ROWS" = some (some (.int 60 tMR)))
    (g_MW : PySem.W.nsIn K mainGlobals "MOST_WIDTH" = some (some (.int 12 tMW)))
    (g_FI : PySem.W.nsIn K mainGlobals "FIELDS" = some (some (.ref FI)))
    (l_FI : K.lookup FI = some ⟨.type "tuple", odF, .seq #[.int 0 t0, .int 2 t1, .int 3 t2, .int 5 t3, .int 7 t4, .int 11 t5, .int 13 t6] nF, slF⟩)
    (z_len : PySem.W.nsIn K mainGlobals "len" = some none)
    (z_abs : PySem.W.nsIn K mainGlobals "abs" = some none)
    (z_list : PySem.W.nsIn K mainGlobals "list" = some none)
    (z_set : PySem.W.nsIn K mainGlobals "set" = some none)
    (z_sorted : PySem.W.nsIn K mainGlobals "sorted" = some none)
    (z_int : PySem.W.nsIn K mainGlobals "int" = some none)
    (z_isinstance : PySem.W.nsIn K mainGlobals "isinstance" = some none)
    (z_tuple : PySem.W.nsIn K mainGlobals "tuple" = some none)
    (z_any : PySem.W.nsIn K mainGlobals "any" = some none)
    (z_all : PySem.W.nsIn K mainGlobals "all" = some none)
    (z_dict : PySem.W.nsIn K mainGlobals "dict" = some none)
    (z_range : PySem.W.nsIn K mainGlobals "range" = some none)
    (z_enumerate : PySem.W.nsIn K mainGlobals "enumerate" = some none)
    (z_zip : PySem.W.nsIn K mainGlobals "zip" = some none)
    (z_str : PySem.W.nsIn K mainGlobals "str" = some none)
    (z_bool : PySem.W.nsIn K mainGlobals "bool" = some none)
    : ∃ fd : FuncData, (∀ (s : Shared) (u : Value), BindsTo s fd ⟨[u], []⟩ [("_law_script", u)]) ∧ ∀ base : Heap, K.In base → base.Ns mainGlobals mg → FnOk P w K mg base CX0 18 fa fd ["_law_script"] (sp_law K) := by
  have e := hfa.symm.trans (PySem.W.mg_of X G q_law)
  have e2 : f_law = fa := by cases e; rfl
  subst e2
  let a : At := ⟨C_Places, C_Copies, C_CopiesBase, C_Moment, C_Game, C_Base, C_Rows, f_is_list, f_is_integer, f_is_below, f_greatest_divisor, f_leaned, f_Places_init, f_Places_steps_to, f_Places_reached_from, f_Places_put, f_Places_told, f_Copies_init, f_Copies_base_of, f_CopiesBase_init, f_CopiesBase_relation, f_is_made, f_two_lots, f_stuck, f_hold_of, f_Moment_init, f_Moment_behind, f_Game_init, f_Game_now, f_Game_free_rows, f_Game_is_kept, f_Game_is_lost, f_Game_turn, f_Game_winner_at, f_Game_winner, f_Game_winning, f_Game_take, f_is_row, f_width_of, f_Base_init, f_Base_left_of, f_Base_relation, f_Base_add, f_Rows_init, f_Rows_field, f_Rows_len, f_Rows_row_at, f_Rows_base_of, f__law_source, f__law_draw, f__law_pick, f__law_field, f__law_rows, f__law_made, f__law_divisor, f__law_game, f__law_columns, f__law_less, f__law_lean, f__law_turned, f_law, pF, FI⟩
  have tFI : ∀ H : Hp, SqT K H FI ([0, 2, 3, 5, 7, 11, 13].map V.int) := fun H => .inr ⟨_, _, _, l_FI, rfl, rfl, Nat.le_of_ble_eq_true rfl, .cons ⟨_, rfl⟩ (.cons ⟨_, rfl⟩ (.cons ⟨_, rfl⟩ (.cons ⟨_, rfl⟩ (.cons ⟨_, rfl⟩ (.cons ⟨_, rfl⟩ (.cons ⟨_, rfl⟩ .nil))))))⟩
  have FD : ∀ {x qual : Str} {st : Stmt} {f : Addr} {oc kV dc pm cd ct : Value} {od an : Option Addr} {sl : Array (Option Value)}, K.lookup f = some ⟨oc, od, .func (PySem.W.fnOf x qual (defArgs st) (defBody st) (defScope st) .none kV dc pm an cd ct), sl⟩ → PySem.W.codeIn K cd qual = true → PySem.W.keepIn K (.ref f) = true → FunD K x qual (defArgs st) (defBody st) (defScope st) [] [] f (PySem.W.fnOf x qual (defArgs st) (defBody st) (defScope st) .none kV dc pm an cd ct) := fun l c k => ⟨⟨_, _, _, _, _, _, _, _, _, _, rfl, l, c, .inl ⟨rfl, rfl⟩, .inl rfl⟩, k⟩
  have T : Tx K mg a := {
    c_Places := ⟨pg_Places, hd_Places, po_Places, sa_Places⟩
    gC_Places := PySem.W.mg_of X G a_Places
    k_Places := ⟨mk_Places, q_Places_init, i_Places_init, kc_Places⟩
    n_Places_tables := n_Places_tables
    n_Places_sizes := n_Places_sizes
    n_Places_kept := n_Places_kept
    c_Copies := ⟨pg_Copies, hd_Copies, po_Copies, sa_Copies⟩
    gC_Copies := PySem.W.mg_of X G a_Copies
    k_Copies := ⟨mk_Copies, q_Copies_init, i_Copies_init, kc_Copies⟩
    n_Copies_own_table := n_Copies_own_table
    n_Copies_copied := n_Copies_copied
    n_Copies_ahead := n_Copies_ahead
    c_CopiesBase := ⟨pg_CopiesBase, hd_CopiesBase, po_CopiesBase, sa_CopiesBase⟩
    gC_CopiesBase := PySem.W.mg_of X G a_CopiesBase
    k_CopiesBase := ⟨mk_CopiesBase, q_CopiesBase_init, i_CopiesBase_init, kc_CopiesBase⟩
    n_CopiesBase_copied := n_CopiesBase_copied
    n_CopiesBase_thing_of := n_CopiesBase_thing_of
    n_CopiesBase_base := n_CopiesBase_base
    c_Moment := ⟨pg_Moment, hd_Moment, po_Moment, sa_Moment⟩
    gC_Moment := PySem.W.mg_of X G a_Moment
    k_Moment := ⟨mk_Moment, q_Moment_init, i_Moment_init, kc_Moment⟩
    n_Moment_kept := n_Moment_kept
    n_Moment_cut := n_Moment_cut
    n_Moment_free := n_Moment_free
    n_Moment_hand := n_Moment_hand
    c_Game := ⟨pg_Game, hd_Game, po_Game, sa_Game⟩
    gC_Game := PySem.W.mg_of X G a_Game
    k_Game := ⟨mk_Game, q_Game_init, i_Game_init, kc_Game⟩
    n_Game_own_table := n_Game_own_table
    n_Game_own_goal := n_Game_own_goal
    n_Game_moments := n_Game_moments
    n_Game_at := n_Game_at
    c_Base := ⟨pg_Base, hd_Base, po_Base, sa_Base⟩
    gC_Base := PySem.W.mg_of X G a_Base
    k_Base := ⟨mk_Base, q_Base_init, i_Base_init, kc_Base⟩
    n_Base_own_table := n_Base_own_table
    n_Base_steps := n_Base_steps
    c_Rows := ⟨pg_Rows, hd_Rows, po_Rows, sa_Rows⟩
    gC_Rows := PySem.W.mg_of X G a_Rows
    k_Rows := ⟨mk_Rows, q_Rows_init, i_Rows_init, kc_Rows⟩
    n_Rows_own_field := n_Rows_own_field
    n_Rows_own_width := n_Rows_own_width
    n_Rows_own_rows := n_Rows_own_rows
    F_is_list := ⟨_, FD (st := s_is_list) l_is_list c_is_list k_is_list⟩
    g_is_list := PySem.W.mg_of X G q_is_list
    F_is_integer := ⟨_, FD (st := s_is_integer) l_is_integer c_is_integer k_is_integer⟩
    g_is_integer := PySem.W.mg_of X G q_is_integer
    F_is_below := ⟨_, FD (st := s_is_below) l_is_below c_is_below k_is_below⟩
    g_is_below := PySem.W.mg_of X G q_is_below
    F_greatest_divisor := ⟨_, FD (st := s_greatest_divisor) l_greatest_divisor c_greatest_divisor k_greatest_divisor⟩
    g_greatest_divisor := PySem.W.mg_of X G q_greatest_divisor
    F_leaned := ⟨_, FD (st := s_leaned) l_leaned c_leaned k_leaned⟩
    g_leaned := PySem.W.mg_of X G q_leaned
    F_Places_init := ⟨_, FD (st := s_Places_init) l_Places_init c_Places_init k_Places_init⟩
    F_Places_steps_to := ⟨_, FD (st := s_Places_steps_to) l_Places_steps_to c_Places_steps_to k_Places_steps_to⟩
    M_Places_steps_to := ⟨q_Places_steps_to, i_Places_steps_to, k_Places_steps_to⟩
    F_Places_reached_from := ⟨_, FD (st := s_Places_reached_from) l_Places_reached_from c_Places_reached_from k_Places_reached_from⟩
    M_Places_reached_from := ⟨q_Places_reached_from, i_Places_reached_from, k_Places_reached_from⟩
    F_Places_put := ⟨_, FD (st := s_Places_put) l_Places_put c_Places_put k_Places_put⟩
    M_Places_put := ⟨q_Places_put, i_Places_put, k_Places_put⟩
    F_Places_told := ⟨_, FD (st := s_Places_told) l_Places_told c_Places_told k_Places_told⟩
    M_Places_told := ⟨q_Places_told, i_Places_told, k_Places_told⟩
    F_Copies_init := ⟨_, FD (st := s_Copies_init) l_Copies_init c_Copies_init k_Copies_init⟩
    F_Copies_base_of := ⟨_, FD (st := s_Copies_base_of) l_Copies_base_of c_Copies_base_of k_Copies_base_of⟩
    M_Copies_base_of := ⟨q_Copies_base_of, i_Copies_base_of, k_Copies_base_of⟩
    F_CopiesBase_init := ⟨_, FD (st := s_CopiesBase_init) l_CopiesBase_init c_CopiesBase_init k_CopiesBase_init⟩
    F_CopiesBase_relation := ⟨_, FD (st := s_CopiesBase_relation) l_CopiesBase_relation c_CopiesBase_relation k_CopiesBase_relation⟩
    M_CopiesBase_relation := ⟨q_CopiesBase_relation, i_CopiesBase_relation, k_CopiesBase_relation⟩
    F_is_made := ⟨_, FD (st := s_is_made) l_is_made c_is_made k_is_made⟩
    g_is_made := PySem.W.mg_of X G q_is_made
    F_two_lots := ⟨_, FD (st := s_two_lots) l_two_lots c_two_lots k_two_lots⟩
    g_two_lots := PySem.W.mg_of X G q_two_lots
    F_stuck := ⟨_, FD (st := s_stuck) l_stuck c_stuck k_stuck⟩
    g_stuck := PySem.W.mg_of X G q_stuck
    F_hold_of := ⟨_, FD (st := s_hold_of) l_hold_of c_hold_of k_hold_of⟩
    g_hold_of := PySem.W.mg_of X G q_hold_of
    F_Moment_init := ⟨_, FD (st := s_Moment_init) l_Moment_init c_Moment_init k_Moment_init⟩
    F_Moment_behind := ⟨_, FD (st := s_Moment_behind) l_Moment_behind c_Moment_behind k_Moment_behind⟩
    M_Moment_behind := ⟨q_Moment_behind, i_Moment_behind, k_Moment_behind⟩
    F_Game_init := ⟨_, FD (st := s_Game_init) l_Game_init c_Game_init k_Game_init⟩
    F_Game_now := ⟨_, FD (st := s_Game_now) l_Game_now c_Game_now k_Game_now⟩
    M_Game_now := ⟨q_Game_now, i_Game_now, k_Game_now⟩
    F_Game_free_rows := ⟨_, FD (st := s_Game_free_rows) l_Game_free_rows c_Game_free_rows k_Game_free_rows⟩
    M_Game_free_rows := ⟨q_Game_free_rows, i_Game_free_rows, k_Game_free_rows⟩
    F_Game_is_kept := ⟨_, FD (st := s_Game_is_kept) l_Game_is_kept c_Game_is_kept k_Game_is_kept⟩
    M_Game_is_kept := ⟨q_Game_is_kept, i_Game_is_kept, k_Game_is_kept⟩
    F_Game_is_lost := ⟨_, FD (st := s_Game_is_lost) l_Game_is_lost c_Game_is_lost k_Game_is_lost⟩
    M_Game_is_lost := ⟨q_Game_is_lost, i_Game_is_lost, k_Game_is_lost⟩
    F_Game_turn := ⟨_, FD (st := s_Game_turn) l_Game_turn c_Game_turn k_Game_turn⟩
    M_Game_turn := ⟨q_Game_turn, i_Game_turn, k_Game_turn⟩
    F_Game_winner_at := ⟨_, FD (st := s_Game_winner_at) l_Game_winner_at c_Game_winner_at k_Game_winner_at⟩
    M_Game_winner_at := ⟨q_Game_winner_at, i_Game_winner_at, k_Game_winner_at⟩
    F_Game_winner := ⟨_, FD (st := s_Game_winner) l_Game_winner c_Game_winner k_Game_winner⟩
    M_Game_winner := ⟨q_Game_winner, i_Game_winner, k_Game_winner⟩
    F_Game_winning := ⟨_, FD (st := s_Game_winning) l_Game_winning c_Game_winning k_Game_winning⟩
    M_Game_winning := ⟨q_Game_winning, i_Game_winning, k_Game_winning⟩
    F_Game_take := ⟨_, FD (st := s_Game_take) l_Game_take c_Game_take k_Game_take⟩
    M_Game_take := ⟨q_Game_take, i_Game_take, k_Game_take⟩
    F_is_row := ⟨_, FD (st := s_is_row) l_is_row c_is_row k_is_row⟩
    g_is_row := PySem.W.mg_of X G q_is_row
    F_width_of := ⟨_, FD (st := s_width_of) l_width_of c_width_of k_width_of⟩
    g_width_of := PySem.W.mg_of X G q_width_of
    F_Base_init := ⟨_, FD (st := s_Base_init) l_Base_init c_Base_init k_Base_init⟩
    F_Base_left_of := ⟨_, FD (st := s_Base_left_of) l_Base_left_of c_Base_left_of k_Base_left_of⟩
    M_Base_left_of := ⟨q_Base_left_of, i_Base_left_of, k_Base_left_of⟩
    F_Base_relation := ⟨_, FD (st := s_Base_relation) l_Base_relation c_Base_relation k_Base_relation⟩
    M_Base_relation := ⟨q_Base_relation, i_Base_relation, k_Base_relation⟩
    F_Base_add := ⟨_, FD (st := s_Base_add) l_Base_add c_Base_add k_Base_add⟩
    M_Base_add := ⟨q_Base_add, i_Base_add, k_Base_add⟩
    F_Rows_init := ⟨_, ⟨_, _, _, _, _, _, _, _, _, _, rfl, l_Rows_init, c_Rows_init, .inr ⟨List.cons_ne_nil _ _, TD, _, [.int 0 tD], nD, rfl, lTD, rfl, .cons ⟨_, rfl⟩ .nil⟩, .inl rfl⟩, k_Rows_init⟩
    F_Rows_field := ⟨_, FD (st := s_Rows_field) l_Rows_field c_Rows_field k_Rows_field⟩
    F_Rows_len := ⟨_, FD (st := s_Rows_len) l_Rows_len c_Rows_len k_Rows_len⟩
    M_Rows_len := ⟨q_Rows_len, i_Rows_len, k_Rows_len⟩
    F_Rows_row_at := ⟨_, FD (st := s_Rows_row_at) l_Rows_row_at c_Rows_row_at k_Rows_row_at⟩
    M_Rows_row_at := ⟨q_Rows_row_at, i_Rows_row_at, k_Rows_row_at⟩
    F_Rows_base_of := ⟨_, FD (st := s_Rows_base_of) l_Rows_base_of c_Rows_base_of k_Rows_base_of⟩
    M_Rows_base_of := ⟨q_Rows_base_of, i_Rows_base_of, k_Rows_base_of⟩
    F__law_source := ⟨_, FD (st := s__law_source) l__law_source c__law_source k__law_source⟩
    g__law_source := PySem.W.mg_of X G q__law_source
    F__law_draw := ⟨_, FD (st := s__law_draw) l__law_draw c__law_draw k__law_draw⟩
    g__law_draw := PySem.W.mg_of X G q__law_draw
    F__law_pick := ⟨_, FD (st := s__law_pick) l__law_pick c__law_pick k__law_pick⟩
    g__law_pick := PySem.W.mg_of X G q__law_pick
    F__law_field := ⟨_, FD (st := s__law_field) l__law_field c__law_field k__law_field⟩
    g__law_field := PySem.W.mg_of X G q__law_field
    F__law_rows := ⟨_, FD (st := s__law_rows) l__law_rows c__law_rows k__law_rows⟩
    g__law_rows := PySem.W.mg_of X G q__law_rows
    F__law_made := ⟨_, FD (st := s__law_made) l__law_made c__law_made k__law_made⟩
    g__law_made := PySem.W.mg_of X G q__law_made
    F__law_divisor := ⟨_, FD (st := s__law_divisor) l__law_divisor c__law_divisor k__law_divisor⟩
    g__law_divisor := PySem.W.mg_of X G q__law_divisor
    F__law_game := ⟨_, FD (st := s__law_game) l__law_game c__law_game k__law_game⟩
    g__law_game := PySem.W.mg_of X G q__law_game
    F__law_columns := ⟨_, FD (st := s__law_columns) l__law_columns c__law_columns k__law_columns⟩
    g__law_columns := PySem.W.mg_of X G q__law_columns
    F__law_less := ⟨_, FD (st := s__law_less) l__law_less c__law_less k__law_less⟩
    g__law_less := PySem.W.mg_of X G q__law_less
    F__law_lean := ⟨_, FD (st := s__law_lean) l__law_lean c__law_lean k__law_lean⟩
    g__law_lean := PySem.W.mg_of X G q__law_lean
    F__law_turned := ⟨_, FD (st := s__law_turned) l__law_turned c__law_turned k__law_turned⟩
    g__law_turned := PySem.W.mg_of X G q__law_turned
    F_law := ⟨_, FD (st := s_law) l_law c_law k_law⟩
    g_law := PySem.W.mg_of X G q_law
    P_field := ⟨pr1, pr2, pr3, _, pr4⟩
    g_KEEP := ⟨_, PySem.W.mg_of X G g_KEEP⟩
    g_CUT := ⟨_, PySem.W.mg_of X G g_CUT⟩
    g_MOST_ROWS := ⟨_, PySem.W.mg_of X G g_MR⟩
    g_MOST_WIDTH := ⟨_, PySem.W.mg_of X G g_MW⟩
    g_FIELDS := PySem.W.mg_of X G g_FI
    t_FIELDS := tFI
    b_len := PySem.W.mg_none_of X G z_len
    b_abs := PySem.W.mg_none_of X G z_abs
    b_list := PySem.W.mg_none_of X G z_list
    b_set := PySem.W.mg_none_of X G z_set
    b_sorted := PySem.W.mg_none_of X G z_sorted
    b_int := PySem.W.mg_none_of X G z_int
    b_isinstance := PySem.W.mg_none_of X G z_isinstance
    b_tuple := PySem.W.mg_none_of X G z_tuple
    b_any := PySem.W.mg_none_of X G z_any
    b_all := PySem.W.mg_none_of X G z_all
    b_dict := PySem.W.mg_none_of X G z_dict
    b_range := PySem.W.mg_none_of X G z_range
    b_enumerate := PySem.W.mg_none_of X G z_enumerate
    b_zip := PySem.W.mg_none_of X G z_zip
    b_str := PySem.W.mg_none_of X G z_str
    b_bool := PySem.W.mg_none_of X G z_bool
  }
  have FL := FD (st := s_law) l_law c_law k_law
  exact ⟨_, fun s u => FL.bindsA (ps := ["_law_script"]) (fun _ _ _ _ _ _ us hl => match us, hl with | [_], _ => rfl) s [u] rfl, fun base _ _ => law_core P w base (a := a) FL T⟩
theorem law_walk {l : PySem.W.OpenLaw} {q : Program} {loose : List Str} {XP : (Str → Option Value) → Heap → Prop} {YP : World → Heap → Prop} {d : DefRec} {K : Params → PySem.W.Frag}
    (hn : l.most = some 63) (hdf : d.params.defaults = []) (hY : ∀ (w : World) (h : Heap), YP w h → (K w.params).In h) (F : ∀ (w : World) (mg : Str → Option Value) (fa : Addr) (h : Heap), (K w.params).In h → h.Ns mainGlobals mg → mg d.name = some (.ref fa) →
      ∃ fd : FuncData, (∀ (s : Shared) (u : Value), BindsTo s fd ⟨[u], []⟩ [("_law_script", u)]) ∧ ∀ base : Heap, (K w.params).In base → base.Ns mainGlobals mg → FnOk l.prog w (K w.params) mg base CX0 18 fa fd ["_law_script"] (sp_law (K w.params))) :
    PySem.W.WalkO q loose XP YP l.row.toRowW d [] (fun f vs => PySem.call f vs) := by
  refine L2.walk_ofK (n := 63) (k := 18) (x := "_law_script") (CX := CX0) (sp := sp_law) hn (by decide) hdf ⟨rfl, by decide, by decide⟩ hY F ?_ ?_
  · exact fun K H a ns _ _ hS => ⟨a, ns, rfl, hS, fun _ => rfl⟩
  · exact fun _ _ _ _ z => z
end FL
set_option Elab.async false
set_option linter.all false
open PySem PySem.W PyProof.Rows
set_option maxRecDepth 100000 in
set_option maxHeartbeats 0 in
theorem PySem.Challenge.cw_freelots_k73_whole_games_turned_about_holds : PySem.Challenge.rw_freelots_k73_whole_games_turned_about.Holds := by
  w_on; o_law; k_head; (case hw => w_witness2)
  k_fill
  refine FL.law_walk (l := PySem.Challenge.rw_freelots_k73_whole_games_turned_about) rfl rfl (fun w h Y => PySem.W.kIn_of Y) ?F
  case F =>
    intro w mg fa h KX G hmg
    refine' FL.all_mk KX G hmg ?a_Places ?a_Copies ?a_CopiesBase ?a_Moment ?a_Game ?a_Base ?a_Rows ?q_is_list ?l_is_list ?c_is_list ?k_is_list ?q_is_integer ?l_is_integer ?c_is_integer ?k_is_integer ?q_is_below ?l_is_below ?c_is_below ?k_is_below ?q_greatest_divisor ?l_greatest_divisor ?c_greatest_divisor ?k_greatest_divisor ?q_leaned ?l_leaned ?c_leaned ?k_leaned ?q_Places_init ?i_Places_init ?l_Places_init ?c_Places_init ?k_Places_init ?q_Places_steps_to ?i_Places_steps_to ?l_Places_steps_to ?c_Places_steps_to ?k_Places_steps_to ?q_Places_reached_from ?i_Places_reached_from ?l_Places_reached_from ?c_Places_reached_from ?k_Places_reached_from ?q_Places_put ?i_Places_put ?l_Places_put ?c_Places_put ?k_Places_put ?q_Places_told ?i_Places_told ?l_Places_told ?c_Places_told ?k_Places_told ?q_Copies_init ?i_Copies_init ?l_Copies_init ?c_Copies_init ?k_Copies_init ?q_Copies_base_of ?i_Copies_base_of ?l_Copies_base_of ?c_Copies_base_of ?k_Copies_base_of ?q_CopiesBase_init ?i_CopiesBase_init ?l_CopiesBase_init ?c_CopiesBase_init ?k_CopiesBase_init ?q_CopiesBase_relation ?i_CopiesBase_relation ?l_CopiesBase_relation ?c_CopiesBase_relation ?k_CopiesBase_relation ?q_is_made ?l_is_made ?c_is_made ?k_is_made ?q_two_lots ?l_two_lots ?c_two_lots ?k_two_lots ?q_stuck ?l_stuck ?c_stuck ?k_stuck ?q_hold_of ?l_hold_of ?c_hold_of ?k_hold_of ?q_Moment_init ?i_Moment_init ?l_Moment_init ?c_Moment_init ?k_Moment_init ?q_Moment_behind ?i_Moment_behind ?l_Moment_behind ?c_Moment_behind ?k_Moment_behind ?q_Game_init ?i_Game_init ?l_Game_init ?c_Game_init ?k_Game_init ?q_Game_now ?i_Game_now ?l_Game_now ?c_Game_now ?k_Game_now ?q_Game_free_rows ?i_Game_free_rows ?l_Game_free_rows ?c_Game_free_rows ?k_Game_free_rows ?q_Game_is_kept ?i_Game_is_kept ?l_Game_is_kept ?c_Game_is_kept ?k_Game_is_kept ?q_Game_is_lost ?i_Game_is_lost ?l_Game_is_lost ?c_Game_is_lost ?k_Game_is_lost ?q_Game_turn ?i_Game_turn ?l_Game_turn ?c_Game_turn ?k_Game_turn ?q_Game_winner_at ?i_Game_winner_at ?l_Game_winner_at ?c_Game_winner_at ?k_Game_winner_at ?q_Game_winner ?i_Game_winner ?l_Game_winner ?c_Game_winner ?k_Game_winner ?q_Game_winning ?i_Game_winning ?l_Game_winning ?c_Game_winning ?k_Game_winning ?q_Game_take ?i_Game_take ?l_Game_take ?c_Game_take ?k_Game_take ?q_is_row ?l_is_row ?c_is_row ?k_is_row ?q_width_of ?l_width_of ?c_width_of ?k_width_of ?q_Base_init ?i_Base_init ?l_Base_init ?c_Base_init ?k_Base_init ?q_Base_left_of ?i_Base_left_of ?l_Base_left_of ?c_Base_left_of ?k_Base_left_of ?q_Base_relation ?i_Base_relation ?l_Base_relation ?c_Base_relation ?k_Base_relation ?q_Base_add ?i_Base_add ?l_Base_add ?c_Base_add ?k_Base_add ?q_Rows_init ?i_Rows_init ?l_Rows_init ?c_Rows_init ?k_Rows_init ?pr1 ?pr2 ?pr3 ?pr4 ?l_Rows_field ?c_Rows_field ?k_Rows_field ?q_Rows_len ?i_Rows_len ?l_Rows_len ?c_Rows_len ?k_Rows_len ?q_Rows_row_at ?i_Rows_row_at ?l_Rows_row_at ?c_Rows_row_at ?k_Rows_row_at ?q_Rows_base_of ?i_Rows_base_of ?l_Rows_base_of ?c_Rows_base_of ?k_Rows_base_of ?q__law_source ?l__law_source ?c__law_source ?k__law_source ?q__law_draw ?l__law_draw ?c__law_draw ?k__law_draw ?q__law_pick ?l__law_pick ?c__law_pick ?k__law_pick ?q__law_field ?l__law_field ?c__law_field ?k__law_field ?q__law_rows ?l__law_rows ?c__law_rows ?k__law_rows ?q__law_made ?l__law_made ?c__law_made ?k__law_made ?q__law_divisor ?l__law_divisor ?c__law_divisor ?k__law_divisor ?q__law_game ?l__law_game ?c__law_game ?k__law_game ?q__law_columns ?l__law_columns ?c__law_columns ?k__law_columns ?q__law_less ?l__law_less ?c__law_less ?k__law_less ?q__law_lean ?l__law_lean ?c__law_lean ?k__law_lean ?q__law_turned ?l__law_turned ?c__law_turned ?k__law_turned ?q_law ?l_law ?c_law ?k_law ?lTD ?pg_Places ?hd_Places ?po_Places ?sa_Places ?mk_Places ?kc_Places ?n_Places_tables ?n_Places_sizes ?n_Places_kept ?pg_Copies ?hd_Copies ?po_Copies ?sa_Copies ?mk_Copies ?kc_Copies ?n_Copies_own_table ?n_Copies_copied ?n_Copies_ahead ?pg_CopiesBase ?hd_CopiesBase ?po_CopiesBase ?sa_CopiesBase ?mk_CopiesBase ?kc_CopiesBase ?n_CopiesBase_copied ?n_CopiesBase_thing_of ?n_CopiesBase_base ?pg_Moment ?hd_Moment ?po_Moment ?sa_Moment ?mk_Moment ?kc_Moment ?n_Moment_kept ?n_Moment_cut ?n_Moment_free ?n_Moment_hand ?pg_Game ?hd_Game ?po_Game ?sa_Game ?mk_Game ?kc_Game ?n_Game_own_table ?n_Game_own_goal ?n_Game_moments ?n_Game_at ?pg_Base ?hd_Base ?po_Base ?sa_Base ?mk_Base ?kc_Base ?n_Base_own_table ?n_Base_steps ?pg_Rows ?hd_Rows ?po_Rows ?sa_Rows ?mk_Rows ?kc_Rows ?n_Rows_own_field ?n_Rows_own_width ?n_Rows_own_rows ?g_KEEP ?g_CUT ?g_MR ?g_MW ?g_FI ?l_FI ?z_len ?z_abs ?z_list ?z_set ?z_sorted ?z_int ?z_isinstance ?z_tuple ?z_any ?z_all ?z_dict ?z_range ?z_enumerate ?z_zip ?z_str ?z_bool
    (case a_Places => k_is)
    (case a_Copies => k_is)
    (case a_CopiesBase => k_is)
    (case a_Moment => k_is)
    (case a_Game => k_is)
    (case a_Base => k_is)
    (case a_Rows => k_is)
    (case q_is_list => k_is)
    (case l_is_list => k_is)
    (case c_is_list => k_is)
    (case k_is_list => k_is)
    (case q_is_integer => k_is)
    (case l_is_integer => k_is)
    (case c_is_integer => k_is)
    (case k_is_integer => k_is)
    (case q_is_below => k_is)
    (case l_is_below => k_is)
    (case c_is_below => k_is)
    (case k_is_below => k_is)
    (case q_greatest_divisor => k_is)
    (case l_greatest_divisor => k_is)
    (case c_greatest_divisor => k_is)
    (case k_greatest_divisor => k_is)
    (case q_leaned => k_is)
    (case l_leaned => k_is)
    (case c_leaned => k_is)
    (case k_leaned => k_is)
    (case q_Places_init => k_is)
    (case i_Places_init => k_is)
    (case l_Places_init => k_is)
    (case c_Places_init => k_is)
    (case k_Places_init => k_is)
    (case q_Places_steps_to => k_is)
    (case i_Places_steps_to => k_is)
    (case l_Places_steps_to => k_is)
    (case c_Places_steps_to => k_is)
    (case k_Places_steps_to => k_is)
    (case q_Places_reached_from => k_is)
    (case i_Places_reached_from => k_is)
    (case l_Places_reached_from => k_is)
    (case c_Places_reached_from => k_is)
    (case k_Places_reached_from => k_is)
    (case q_Places_put => k_is)
    (case i_Places_put => k_is)
    (case l_Places_put => k_is)
    (case c_Places_put => k_is)
    (case k_Places_put => k_is)
    (case q_Places_told => k_is)
    (case i_Places_told => k_is)
    (case l_Places_told => k_is)
    (case c_Places_told => k_is)
    (case k_Places_told => k_is)
    (case q_Copies_init => k_is)
    (case i_Copies_init => k_is)
    (case l_Copies_init => k_is)
    (case c_Copies_init => k_is)
    (case k_Copies_init => k_is)
    (case q_Copies_base_of => k_is)
    (case i_Copies_base_of => k_is)
    (case l_Copies_base_of => k_is)
    (case c_Copies_base_of => k_is)
    (case k_Copies_base_of => k_is)
    (case q_CopiesBase_init => k_is)
    (case i_CopiesBase_init => k_is)
    (case l_CopiesBase_init => k_is)
    (case c_CopiesBase_init => k_is)
    (case k_CopiesBase_init => k_is)
    (case q_CopiesBase_relation => k_is)
    (case i_CopiesBase_relation => k_is)
    (case l_CopiesBase_relation => k_is)
    (case c_CopiesBase_relation => k_is)
    (case k_CopiesBase_relation => k_is)
    (case q_is_made => k_is)
    (case l_is_made => k_is)
    (case c_is_made => k_is)
    (case k_is_made => k_is)
    (case q_two_lots => k_is)
    (case l_two_lots => k_is)
    (case c_two_lots => k_is)
    (case k_two_lots => k_is)
    (case q_stuck => k_is)
    (case l_stuck => k_is)
    (case c_stuck => k_is)
    (case k_stuck => k_is)
    (case q_hold_of => k_is)
    (case l_hold_of => k_is)
    (case c_hold_of => k_is)
    (case k_hold_of => k_is)
    (case q_Moment_init => k_is)
    (case i_Moment_init => k_is)
    (case l_Moment_init => k_is)
    (case c_Moment_init => k_is)
    (case k_Moment_init => k_is)
    (case q_Moment_behind => k_is)
    (case i_Moment_behind => k_is)
    (case l_Moment_behind => k_is)
    (case c_Moment_behind => k_is)
    (case k_Moment_behind => k_is)
    (case q_Game_init => k_is)
    (case i_Game_init => k_is)
    (case l_Game_init => k_is)
    (case c_Game_init => k_is)
    (case k_Game_init => k_is)
    (case q_Game_now => k_is)
    (case i_Game_now => k_is)
    (case l_Game_now => k_is)
    (case c_Game_now => k_is)
    (case k_Game_now => k_is)
    (case q_Game_free_rows => k_is)
    (case i_Game_free_rows => k_is)
    (case l_Game_free_rows => k_is)
    (case c_Game_free_rows => k_is)
    (case k_Game_free_rows => k_is)
    (case q_Game_is_kept => k_is)
    (case i_Game_is_kept => k_is)
    (case l_Game_is_kept => k_is)
    (case c_Game_is_kept => k_is)
    (case k_Game_is_kept => k_is)
    (case q_Game_is_lost => k_is)
    (case i_Game_is_lost => k_is)
    (case l_Game_is_lost => k_is)
    (case c_Game_is_lost => k_is)
    (case k_Game_is_lost => k_is)
    (case q_Game_turn => k_is)
    (case i_Game_turn => k_is)
    (case l_Game_turn => k_is)
    (case c_Game_turn => k_is)
    (case k_Game_turn => k_is)
    (case q_Game_winner_at => k_is)
    (case i_Game_winner_at => k_is)
    (case l_Game_winner_at => k_is)
    (case c_Game_winner_at => k_is)
    (case k_Game_winner_at => k_is)
    (case q_Game_winner => k_is)
    (case i_Game_winner => k_is)
    (case l_Game_winner => k_is)
    (case c_Game_winner => k_is)
    (case k_Game_winner => k_is)
    (case q_Game_winning => k_is)
    (case i_Game_winning => k_is)
    (case l_Game_winning => k_is)
    (case c_Game_winning => k_is)
    (case k_Game_winning => k_is)
    (case q_Game_take => k_is)
    (case i_Game_take => k_is)
    (case l_Game_take => k_is)
    (case c_Game_take => k_is)
    (case k_Game_take => k_is)
    (case q_is_row => k_is)
    (case l_is_row => k_is)
    (case c_is_row => k_is)
    (case k_is_row => k_is)
    (case q_width_of => k_is)
    (case l_width_of => k_is)
    (case c_width_of => k_is)
    (case k_width_of => k_is)
    (case q_Base_init => k_is)
    (case i_Base_init => k_is)
    (case l_Base_init => k_is)
    (case c_Base_init => k_is)
    (case k_Base_init => k_is)
    (case q_Base_left_of => k_is)
    (case i_Base_left_of => k_is)
    (case l_Base_left_of => k_is)
    (case c_Base_left_of => k_is)
    (case k_Base_left_of => k_is)
    (case q_Base_relation => k_is)
    (case i_Base_relation => k_is)
    (case l_Base_relation => k_is)
    (case c_Base_relation => k_is)
    (case k_Base_relation => k_is)
    (case q_Base_add => k_is)
    (case i_Base_add => k_is)
    (case l_Base_add => k_is)
    (case c_Base_add => k_is)
    (case k_Base_add => k_is)
    (case q_Rows_init => k_is)
    (case i_Rows_init => k_is)
    (case l_Rows_init => k_is)
    (case c_Rows_init => k_is)
    (case k_Rows_init => k_is)
    (case pr1 => k_is)
    (case pr2 => k_is)
    (case pr3 => k_is)
    (case pr4 => k_is)
    (case l_Rows_field => k_is)
    (case c_Rows_field => k_is)
    (case k_Rows_field => k_is)
    (case q_Rows_len => k_is)
    (case i_Rows_len => k_is)
    (case l_Rows_len => k_is)
    (case c_Rows_len => k_is)
    (case k_Rows_len => k_is)
    (case q_Rows_row_at => k_is)
    (case i_Rows_row_at => k_is)
    (case l_Rows_row_at => k_is)
    (case c_Rows_row_at => k_is)
    (case k_Rows_row_at => k_is)
    (case q_Rows_base_of => k_is)
    (case i_Rows_base_of => k_is)
    (case l_Rows_base_of => k_is)
    (case c_Rows_base_of => k_is)
    (case k_Rows_base_of => k_is)
    (case q__law_source => k_is)
    (case l__law_source => k_is)
    (case c__law_source => k_is)
    (case k__law_source => k_is)
    (case q__law_draw => k_is)
    (case l__law_draw => k_is)
    (case c__law_draw => k_is)
    (case k__law_draw => k_is)
    (case q__law_pick => k_is)
    (case l__law_pick => k_is)
    (case c__law_pick => k_is)
    (case k__law_pick => k_is)
    (case q__law_field => k_is)
    (case l__law_field => k_is)
    (case c__law_field => k_is)
    (case k__law_field => k_is)
    (case q__law_rows => k_is)
    (case l__law_rows => k_is)
    (case c__law_rows => k_is)
    (case k__law_rows => k_is)
    (case q__law_made => k_is)
    (case l__law_made => k_is)
    (case c__law_made => k_is)
    (case k__law_made => k_is)
    (case q__law_divisor => k_is)
    (case l__law_divisor => k_is)
    (case c__law_divisor => k_is)
    (case k__law_divisor => k_is)
    (case q__law_game => k_is)
    (case l__law_game => k_is)
    (case c__law_game => k_is)
    (case k__law_game => k_is)
    (case q__law_columns => k_is)
    (case l__law_columns => k_is)
    (case c__law_columns => k_is)
    (case k__law_columns => k_is)
    (case q__law_less => k_is)
    (case l__law_less => k_is)
    (case c__law_less => k_is)
    (case k__law_less => k_is)
    (case q__law_lean => k_is)
    (case l__law_lean => k_is)
    (case c__law_lean => k_is)
    (case k__law_lean => k_is)
    (case q__law_turned => k_is)
    (case l__law_turned => k_is)
    (case c__law_turned => k_is)
    (case k__law_turned => k_is)
    (case q_law => k_is)
    (case l_law => k_is)
    (case c_law => k_is)
    (case k_law => k_is)
    (case lTD => k_is)
    (case pg_Places => k_is)
    (case hd_Places => k_is)
    (case po_Places => k_is)
    (case sa_Places => k_is)
    (case mk_Places => k_is)
    (case kc_Places => k_is)
    (case n_Places_tables => k_is)
    (case n_Places_sizes => k_is)
    (case n_Places_kept => k_is)
    (case pg_Copies => k_is)
    (case hd_Copies => k_is)
    (case po_Copies => k_is)
    (case sa_Copies => k_is)
    (case mk_Copies => k_is)
    (case kc_Copies => k_is)
    (case n_Copies_own_table => k_is)
    (case n_Copies_copied => k_is)
    (case n_Copies_ahead => k_is)
    (case pg_CopiesBase => k_is)
    (case hd_CopiesBase => k_is)
    (case po_CopiesBase => k_is)
    (case sa_CopiesBase => k_is)
    (case mk_CopiesBase => k_is)
    (case kc_CopiesBase => k_is)
    (case n_CopiesBase_copied => k_is)
    (case n_CopiesBase_thing_of => k_is)
    (case n_CopiesBase_base => k_is)
    (case pg_Moment => k_is)
    (case hd_Moment => k_is)
    (case po_Moment => k_is)
    (case sa_Moment => k_is)
    (case mk_Moment => k_is)
    (case kc_Moment => k_is)
    (case n_Moment_kept => k_is)
    (case n_Moment_cut => k_is)
    (case n_Moment_free => k_is)
    (case n_Moment_hand => k_is)
    (case pg_Game => k_is)
    (case hd_Game => k_is)
    (case po_Game => k_is)
    (case sa_Game => k_is)
    (case mk_Game => k_is)
    (case kc_Game => k_is)
    (case n_Game_own_table => k_is)
    (case n_Game_own_goal => k_is)
    (case n_Game_moments => k_is)
    (case n_Game_at => k_is)
    (case pg_Base => k_is)
    (case hd_Base => k_is)
    (case po_Base => k_is)
    (case sa_Base => k_is)
    (case mk_Base => k_is)
    (case kc_Base => k_is)
    (case n_Base_own_table => k_is)
    (case n_Base_steps => k_is)
    (case pg_Rows => k_is)
    (case hd_Rows => k_is)
    (case po_Rows => k_is)
    (case sa_Rows => k_is)
    (case mk_Rows => k_is)
    (case kc_Rows => k_is)
    (case n_Rows_own_field => k_is)
    (case n_Rows_own_width => k_is)
    (case n_Rows_own_rows => k_is)
    (case g_KEEP => k_is)
    (case g_CUT => k_is)
    (case g_MR => k_is)
    (case g_MW => k_is)
    (case g_FI => k_is)
    (case l_FI => k_is)
    (case z_len => k_is)
    (case z_abs => k_is)
    (case z_list => k_is)
    (case z_set => k_is)
    (case z_sorted => k_is)
    (case z_int => k_is)
    (case z_isinstance => k_is)
    (case z_tuple => k_is)
    (case z_any => k_is)
    (case z_all => k_is)
    (case z_dict => k_is)
    (case z_range => k_is)
    (case z_enumerate => k_is)
    (case z_zip => k_is)
    (case z_str => k_is)
    (case z_bool => k_is)
