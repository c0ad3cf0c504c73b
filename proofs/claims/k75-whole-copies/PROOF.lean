import PyProof.Rows.All
import Wide.All
import OpenK.AllK
import Wide.FinOn
import HandS.ForMost
import KE.DataEq
import KE.DatumOrd
import KE.SortData
import HandS.Conv
import HandS.TupSets
import HandS.Ends
import HandS.Words
import PySem.Challenge.RW_tableguild_k75_whole_copies_that_meet
set_option Elab.async false
set_option linter.all false
set_option maxRecDepth 100000
set_option maxHeartbeats 4000000
/-! Ab: an abstract layer over the hand layer: values as data (no addresses), lists that one name owns and changes, states as lists of slots. -/
namespace Ab
open PySem PySem.Spec PyProof.Rows L2

abbrev St := L2.St
/-- what an owned object holds -/
inductive OV where
  | lst (ds : List PyData)
/-- an abstract value: data that never changes; an owned object (fresh, or of a slot; t tells that it is the t-th argument's); the owned object of slot i -/
inductive AV where
  | dat (d : PyData) | own (t : Option Nat) (o : OV) | ali (i : Nat)
abbrev AS := List (Option AV)
/-- what is fixed during a def: the written part, the heap that must stay, what was frozen at first, the owned arguments' addresses -/
structure Fx where
  K : PySem.W.Frag
  B : Hp
  F0 : Hp
  anc : Nat → Option Addr
def Ho (K : PySem.W.Frag) (F H : Hp) (a : Addr) (S : Addr → Prop) : OV → Prop
  | .lst ds => (∀ b, S b ↔ b = a) ∧ ∃ vs, H a = some (.lst vs) ∧ DpAll K F vs ds
/-- the concrete state is as the abstract one tells -/
structure SOk (C : Fx) (F : Hp) (ρ : AS) (σ : St) (H : Hp) : Prop where
  len : ρ.length = σ.length
  fz : Same F H
  fr : Same C.B H
  nf : ∀ b o, F b = some o → C.F0 b = some o ∨ C.B b = none
  dat : ∀ (i : Nat) d, ρ[i]? = some (some (.dat d)) → ∃ v, σ[i]? = some (some v) ∧ Dp C.K F v d
  own : ∃ S : Nat → Addr → Prop, (∀ (i : Nat) t o, ρ[i]? = some (some (.own t o)) → ∃ a, σ[i]? = some (some (.ref a)) ∧ Ho C.K F H a (S i) o ∧ ∀ j, t = some j → C.anc j = some a) ∧
    (∀ i b, S i b → F b = none ∧ C.B b = none ∧ H b ≠ none) ∧ ∀ i j b, S i b → S j b → i = j

/-! ### data stays -/
theorem same_t {K : PySem.W.Frag} {H H' : Hp} {a : Addr} {xs : List V} (e : Same H H') (h : SqT K H a xs) : SqT K H' a xs := by
  rcases h with (h | ⟨o, h⟩) | h
  · exact .inl (.inl (e _ _ h))
  · exact .inl (.inr ⟨o, e _ _ h⟩)
  · exact .inr h
mutual
theorem dp_mono {K : PySem.W.Frag} {F F' : Hp} (e : Same F F') : ∀ (d : PyData) (v : V), Dp K F v d → Dp K F' v d
  | .none, _, h => by cases h; exact .non
  | .bool b, _, h => by cases h; exact .bl b
  | .int i, _, h => by cases h; exact .int i
  | .str x, _, h => by cases h; exact .str x
  | .list ds, _, h => by cases h with | lst hs ha => exact .lst (e.seq hs) (dpa_mono e ds _ ha)
  | .tuple ds, _, h => by cases h with | tup hs ha => exact .tup (same_t e hs) (dpa_mono e ds _ ha)
  | .dict _, _, h => by cases h
theorem dpa_mono {K : PySem.W.Frag} {F F' : Hp} (e : Same F F') : ∀ (ds : List PyData) (vs : List V), DpAll K F vs ds → DpAll K F' vs ds
  | [], _, h => by cases h; exact .nil
  | d :: ds, _, h => by cases h with | cons h1 h2 => exact .cons (dp_mono e d _ h1) (dpa_mono e ds _ h2)
end
mutual
theorem dp_plain {K : PySem.W.Frag} {F : Hp} : ∀ (d : PyData) (v : V), Dp K F v d → d.plain = true
  | .none, _, h => rfl
  | .bool b, _, h => rfl
  | .int i, _, h => rfl
  | .str x, _, h => rfl
  | .list ds, _, h => by cases h with | lst hs ha => simpa [PyData.plain] using dpa_plain ds _ ha
  | .tuple ds, _, h => by cases h with | tup hs ha => simpa [PyData.plain] using dpa_plain ds _ ha
  | .dict _, _, h => by cases h
theorem dpa_plain {K : PySem.W.Frag} {F : Hp} : ∀ (ds : List PyData) (vs : List V), DpAll K F vs ds → PyData.plainAll ds = true
  | [], _, h => rfl
  | d :: ds, _, h => by cases h with | cons h1 h2 => simp [PyData.plainAll, dp_plain d _ h1, dpa_plain ds _ h2]
end
theorem dpa_len {K : PySem.W.Frag} {F : Hp} : ∀ {ds : List PyData} {vs : List V}, DpAll K F vs ds → vs.length = ds.length
  | [], _, h => by cases h; rfl
  | d :: ds, _, h => by cases h with | cons h1 h2 => simp [dpa_len h2]
theorem dpa_get {K : PySem.W.Frag} {F : Hp} : ∀ {ds : List PyData} {vs : List V}, DpAll K F vs ds → ∀ {i : Nat} {d : PyData}, ds[i]? = some d → ∃ v, vs[i]? = some v ∧ Dp K F v d
  | [], _, _, i, d, e => by simp at e
  | c :: ds, _, h, i, d, e => by
    cases h with
    | cons h1 h2 =>
      cases i with
      | zero => simp at e; subst e; exact ⟨_, rfl, h1⟩
      | succ i =>
        obtain ⟨v, e1, e2⟩ := dpa_get h2 (i := i) (d := d) (by simpa using e)
        exact ⟨v, by simpa using e1, e2⟩
theorem dpa_app {K : PySem.W.Frag} {F : Hp} : ∀ {ds es : List PyData} {vs ws : List V}, DpAll K F vs ds → DpAll K F ws es → DpAll K F (vs ++ ws) (ds ++ es)
  | [], _, _, _, h, g => by cases h; exact g
  | d :: ds, _, _, _, h, g => by cases h with | cons h1 h2 => exact .cons h1 (dpa_app h2 g)
theorem dpa_set {K : PySem.W.Frag} {F : Hp} {v : V} {d : PyData} (hv : Dp K F v d) : ∀ {ds : List PyData} {vs : List V}, DpAll K F vs ds → ∀ i : Nat, DpAll K F (vs.set i v) (ds.set i d)
  | [], _, h, _ => by cases h; exact .nil
  | c :: ds, _, h, i => by
    cases h with
    | cons h1 h2 =>
      cases i with
      | zero => exact .cons hv h2
      | succ i => exact .cons h1 (dpa_set hv h2 i)
theorem ho_mono {K : PySem.W.Frag} {F F' H H' : Hp} {a : Addr} {S : Addr → Prop} {o : OV} (e : Same F F') (k : ∀ b, S b → H' b = H b) (h : Ho K F H a S o) : Ho K F' H' a S o := by
  cases o with
  | lst ds =>
    obtain ⟨h1, vs, h2, h3⟩ := h
    exact ⟨h1, vs, by rw [k a ((h1 a).mpr rfl)]; exact h2, dpa_mono e _ _ h3⟩

/-! ### steps of the state -/
variable {C : Fx} {F F' : Hp} {ρ : AS} {σ : St} {H H' : Hp} {p : Addr} {o : HO} {v : V} {d : PyData}
theorem same_upd' (hp : H p = none) : Same H (upd H p o) := fun b x e => by
  rw [upd_ne (ne_of_none e hp)]
  exact e
theorem SOk.bnone (I : SOk C F ρ σ H) (hp : H p = none) : C.B p = none := by
  cases h : C.B p with
  | none => rfl
  | some o => rw [I.fr p o h] at hp; cases hp
theorem SOk.fnone (I : SOk C F ρ σ H) (hp : H p = none) : F p = none := by
  cases h : F p with
  | none => rfl
  | some o => rw [I.fz p o h] at hp; cases hp
/-- the heap grows by what is not tracked yet -/
theorem SOk.grow (I : SOk C F ρ σ H) (h : Same H H') : SOk C F ρ σ H' := by
  obtain ⟨S, s1, s2, s3⟩ := I.own
  refine ⟨I.len, I.fz.trans h, I.fr.trans h, I.nf, I.dat, S, fun i t o e => ?_, fun i b sb => ?_, s3⟩
  · obtain ⟨a, e1, e2, e3⟩ := s1 i t o e
    refine ⟨a, e1, ho_mono (Same.refl F) (fun b sb => ?_) e2, e3⟩
    obtain ⟨_, _, n⟩ := s2 i b sb
    cases q : H b with
    | none => exact absurd q n
    | some u => exact h b u q
  · obtain ⟨n1, n2, n3⟩ := s2 i b sb
    refine ⟨n1, n2, fun z => ?_⟩
    cases q : H b with
    | none => exact absurd q n3
    | some u => rw [h b u q] at z; cases z
/-- a new object that will never change -/
theorem SOk.imm (I : SOk C F ρ σ H) (hp : H p = none) : SOk C (upd F p o) ρ σ (upd H p o) := by
  have hF := I.fnone hp
  have hB := I.bnone hp
  have e : Same F (upd F p o) := same_upd' hF
  have J := I.grow (same_upd' (o := o) hp)
  obtain ⟨S, s1, s2, s3⟩ := I.own
  refine ⟨I.len, fun b u q => ?_, J.fr, fun b u q => ?_, fun i d q => ?_, S, fun i t o' q => ?_, fun i b sb => ?_, s3⟩
  · by_cases hb : b = p
    · subst hb
      rw [upd_same] at q ⊢
      exact q
    · rw [upd_ne hb] at q ⊢
      exact I.fz b u q
  · by_cases hb : b = p
    · subst hb
      exact .inr hB
    · rw [upd_ne hb] at q
      exact I.nf b u q
  · obtain ⟨v, q1, q2⟩ := I.dat i d q
    exact ⟨v, q1, dp_mono e _ _ q2⟩
  · obtain ⟨a, e1, e2, e3⟩ := s1 i t o' q
    refine ⟨a, e1, ho_mono e (fun b sb => ?_) e2, e3⟩
    obtain ⟨_, _, n⟩ := s2 i b sb
    exact upd_ne fun z => n (by rw [z]; exact hp)
  · obtain ⟨n1, n2, n3⟩ := s2 i b sb
    have hb : b ≠ p := fun z => n3 (by rw [z]; exact hp)
    rw [upd_ne hb, upd_ne hb]
    exact ⟨n1, n2, n3⟩
theorem dp_tup {K : PySem.W.Frag} {vs : List V} {ds : List PyData} (h : F p = some (.tup vs)) (ha : DpAll K F vs ds) : Dp K F (.ref p) (.tuple ds) := .tup (SqT.of h) ha
/-- a value put ahead of all slots -/
theorem SOk.cons_dat (I : SOk C F ρ σ H) (h : Dp C.K F v d) : SOk C F (some (.dat d) :: ρ) (some v :: σ) H := by
  obtain ⟨S, s1, s2, s3⟩ := I.own
  refine ⟨by simp [I.len], I.fz, I.fr, I.nf, fun i d' q => ?_, fun i b => match i with | 0 => False | i + 1 => S i b, fun i t o q => ?_, fun i b sb => ?_, fun i j b si sj => ?_⟩
  · cases i with
    | zero => simp at q; subst q; exact ⟨v, rfl, h⟩
    | succ i => simpa using I.dat i d' (by simpa using q)
  · cases i with
    | zero => simp at q
    | succ i => simpa using s1 i t o (by simpa using q)
  · cases i with
    | zero => exact sb.elim
    | succ i => exact s2 i b sb
  · cases i with
    | zero => exact si.elim
    | succ i =>
      cases j with
      | zero => exact sj.elim
      | succ j => rw [s3 i j b si sj]
theorem SOk.tail {x : Option AV} {y : Option V} (I : SOk C F (x :: ρ) (y :: σ) H) : SOk C F ρ σ H := by
  obtain ⟨S, s1, s2, s3⟩ := I.own
  refine ⟨by simpa using I.len, I.fz, I.fr, I.nf, fun i d' q => by simpa using I.dat (i + 1) d' (by simpa using q), fun i b => S (i + 1) b, fun i t o q => by simpa using s1 (i + 1) t o (by simpa using q), fun i b sb => s2 (i + 1) b sb, fun i j b si sj => by
    have := s3 _ _ b si sj
    omega⟩
/-- a new list that is owned -/
theorem SOk.newOwn {vs : List V} {ds : List PyData} (I : SOk C F ρ σ H) (hp : H p = none) (ha : DpAll C.K F vs ds) : SOk C F (some (.own none (.lst ds)) :: ρ) (some (.ref p) :: σ) (upd H p (.lst vs)) := by
  have hF := I.fnone hp
  have hB := I.bnone hp
  have J := I.grow (same_upd' (o := .lst vs) hp)
  obtain ⟨S, s1, s2, s3⟩ := J.own
  have np : ∀ i b, S i b → b ≠ p ∨ True := fun _ _ _ => .inr trivial
  obtain ⟨T, t1, t2, t3⟩ := I.own
  have nT : ∀ i b, T i b → b ≠ p := fun i b sb z => (t2 i b sb).2.2 (by rw [z]; exact hp)
  refine ⟨by simp [I.len], J.fz, J.fr, J.nf, fun i d' q => ?_, fun i b => match i with | 0 => b = p | i + 1 => T i b, fun i t o q => ?_, fun i b sb => ?_, fun i j b si sj => ?_⟩
  · cases i with
    | zero => simp at q
    | succ i => simpa using J.dat i d' (by simpa using q)
  · cases i with
    | zero =>
      simp at q
      obtain ⟨rfl, rfl⟩ := q
      exact ⟨p, rfl, ⟨fun b => Iff.rfl, vs, upd_same, ha⟩, fun j e => nomatch e⟩
    | succ i =>
      obtain ⟨a, e1, e2, e3⟩ := t1 i t o (by simpa using q)
      exact ⟨a, by simpa using e1, ho_mono (Same.refl F) (fun b sb => upd_ne (nT i b sb)) e2, e3⟩
  · cases i with
    | zero =>
      have e : b = p := sb
      subst e
      exact ⟨hF, hB, by rw [upd_same]; simp⟩
    | succ i =>
      have sb' : T i b := sb
      rw [upd_ne (nT i b sb')]
      exact t2 i b sb'
  · cases i with
    | zero =>
      cases j with
      | zero => rfl
      | succ j => exact absurd si (nT j b sj)
    | succ i =>
      cases j with
      | zero => exact absurd sj (nT i b si)
      | succ j => rw [t3 i j b si sj]
/-- an owned list becomes data for good -/
theorem SOk.freeze {t : Option Nat} {ds : List PyData} (I : SOk C F (some (.own t (.lst ds)) :: ρ) (some v :: σ) H) : ∃ F', Same F F' ∧ SOk C F' ρ σ H ∧ Dp C.K F' v (.list ds) := by
  obtain ⟨S, s1, s2, s3⟩ := I.own
  obtain ⟨a, e1, ⟨e2, vs, e3, e4⟩, _⟩ := s1 0 t (.lst ds) rfl
  have ev : v = .ref a := by simpa using e1
  subst ev
  have sa : S 0 a := (e2 a).mpr rfl
  obtain ⟨n1, n2, n3⟩ := s2 0 a sa
  have e : Same F (upd F a (.lst vs)) := same_upd' n1
  refine ⟨upd F a (.lst vs), e, ?_, .lst (SqL.of upd_same) (dpa_mono e _ _ e4)⟩
  have J := I.tail
  refine ⟨J.len, fun b u q => ?_, J.fr, fun b u q => ?_, fun i d q => ?_, fun i b => S (i + 1) b, fun i t' o q => ?_, fun i b sb => ?_, fun i j b si sj => ?_⟩
  · by_cases hb : b = a
    · subst hb
      rw [upd_same] at q
      cases q
      exact e3
    · rw [upd_ne hb] at q
      exact I.fz b u q
  · by_cases hb : b = a
    · subst hb
      exact .inr n2
    · rw [upd_ne hb] at q
      exact I.nf b u q
  · obtain ⟨w, q1, q2⟩ := J.dat i d q
    exact ⟨w, q1, dp_mono e _ _ q2⟩
  · obtain ⟨c, f1, f2, f3⟩ := s1 (i + 1) t' o (by simpa using q)
    exact ⟨c, by simpa using f1, ho_mono e (fun _ _ => rfl) f2, f3⟩
  · have hb : b ≠ a := fun z => by
      subst z
      have := s3 _ _ _ sb sa
      omega
    rw [upd_ne hb]
    exact s2 (i + 1) b sb
  · have := s3 _ _ b si sj
    omega
/-- a slot stored -/
theorem SOk.set_dat (I : SOk C F ρ σ H) (h : Dp C.K F v d) (i : Nat) : SOk C F (ρ.set i (some (.dat d))) (σ.set i (some v)) H := by
  obtain ⟨S, s1, s2, s3⟩ := I.own
  refine ⟨by simp [I.len], I.fz, I.fr, I.nf, fun j d' q => ?_, S, fun j t o q => ?_, s2, s3⟩
  · rw [List.getElem?_set] at q ⊢
    split at q
    · rename_i hij
      subst hij
      split at q
      · rename_i hlt
        rw [if_pos rfl, if_pos (by rw [← I.len]; exact hlt)]
        simp at q
        subst q
        exact ⟨v, rfl, h⟩
      · cases q
    · rename_i hij
      rw [if_neg hij]
      exact I.dat j d' q
  · rw [List.getElem?_set] at q ⊢
    split at q
    · rename_i hij
      split at q
      · simp at q
      · cases q
    · rename_i hij
      rw [if_neg hij]
      exact s1 j t o q
theorem SOk.set_own {t : Option Nat} {o : OV} (I : SOk C F (some (.own t o) :: ρ) (some v :: σ) H) (i : Nat) : SOk C F (ρ.set i (some (.own t o))) (σ.set i (some v)) H := by
  obtain ⟨S, s1, s2, s3⟩ := I.own
  have J := I.tail
  refine ⟨by simp [J.len], I.fz, I.fr, I.nf, fun j d' q => ?_, fun j b => if j = i then S 0 b else S (j + 1) b, fun j t' o' q => ?_, fun j b sb => ?_, fun j k b sj sk => ?_⟩
  · rw [List.getElem?_set] at q ⊢
    split at q
    · split at q
      · simp at q
      · cases q
    · rename_i hij
      rw [if_neg hij]
      exact J.dat j d' q
  · rw [List.getElem?_set] at q ⊢
    split at q
    · rename_i hij
      subst hij
      split at q
      · rename_i hlt
        simp at q
        obtain ⟨rfl, rfl⟩ := q
        obtain ⟨a, e1, e2, e3⟩ := s1 0 t o rfl
        refine ⟨a, ?_, by simpa using e2, e3⟩
        rw [if_pos rfl, if_pos (by rw [← J.len]; exact hlt)]
        simpa using e1
      · cases q
    · rename_i hij
      rw [if_neg hij]
      have hji : ¬ j = i := fun z => hij z.symm
      obtain ⟨a, e1, e2, e3⟩ := s1 (j + 1) t' o' (by simpa using q)
      exact ⟨a, by simpa using e1, by simpa [hji] using e2, e3⟩
  · have sb : (if j = i then S 0 b else S (j + 1) b) := sb
    split at sb
    · exact s2 0 b sb
    · exact s2 (j + 1) b sb
  · have sj : (if j = i then S 0 b else S (j + 1) b) := sj
    have sk : (if k = i then S 0 b else S (k + 1) b) := sk
    split at sj <;> split at sk
    · omega
    · have := s3 _ _ _ sj sk
      omega
    · have := s3 _ _ _ sj sk
      omega
    · have := s3 _ _ _ sj sk
      omega
/-- slots forgotten -/
theorem SOk.weak {ρ' : AS} {σ' : St} (I : SOk C F ρ σ H) (hl : ρ'.length = σ'.length) (w : ∀ (i : Nat) x, ρ'[i]? = some (some x) → ρ[i]? = some (some x) ∧ σ'[i]? = σ[i]?) : SOk C F ρ' σ' H := by
  obtain ⟨S, s1, s2, s3⟩ := I.own
  refine ⟨hl, I.fz, I.fr, I.nf, fun i d q => ?_, S, fun i t o q => ?_, s2, s3⟩
  · obtain ⟨q1, q2⟩ := w i _ q
    obtain ⟨v, e1, e2⟩ := I.dat i d q1
    exact ⟨v, q2.trans e1, e2⟩
  · obtain ⟨q1, q2⟩ := w i _ q
    obtain ⟨a, e1, e2, e3⟩ := s1 i t o q1
    exact ⟨a, q2.trans e1, e2, e3⟩
/-- the owned list of slot i is changed -/
theorem SOk.mut {i : Nat} {t : Option Nat} {ds ds' : List PyData} {vs' : List V} {a : Addr} (I : SOk C F ρ σ H) (hi : ρ[i]? = some (some (.own t (.lst ds)))) (ha : σ[i]? = some (some (.ref a))) (hv : DpAll C.K F vs' ds') :
    SOk C F (ρ.set i (some (.own t (.lst ds')))) σ (upd H a (.lst vs')) := by
  obtain ⟨S, s1, s2, s3⟩ := I.own
  obtain ⟨a', e1, ⟨e2, vs, e3, e4⟩, e5⟩ := s1 i t (.lst ds) hi
  have : a' = a := by
    rw [ha] at e1
    simpa using e1.symm
  subst this
  have sa : S i a' := (e2 a').mpr rfl
  obtain ⟨n1, n2, n3⟩ := s2 i a' sa
  have ilt : i < ρ.length := (List.getElem?_eq_some_iff.mp hi).1
  refine ⟨by simp [I.len], fun b u q => ?_, fun b u q => ?_, I.nf, fun j d q => ?_, S, fun j t' o q => ?_, fun j b sb => ?_, s3⟩
  · rw [upd_ne (ne_of_none q n1)]
    exact I.fz b u q
  · rw [upd_ne (ne_of_none q n2)]
    exact I.fr b u q
  · rw [List.getElem?_set] at q
    split at q
    · simp at q
    · exact I.dat j d q
  · rw [List.getElem?_set] at q
    split at q
    · rename_i hij
      subst hij
      simp at q
      obtain ⟨rfl, rfl⟩ := q
      exact ⟨a', ha, ⟨e2, vs', upd_same, hv⟩, e5⟩
    · rename_i hij
      obtain ⟨c, f1, f2, f3⟩ := s1 j t' o q
      refine ⟨c, f1, ho_mono (Same.refl F) (fun b sb => upd_ne fun z => ?_) f2, f3⟩
      subst z
      exact hij (s3 _ _ _ sa sb)
  · obtain ⟨m1, m2, m3⟩ := s2 j b sb
    refine ⟨m1, m2, ?_⟩
    by_cases hb : b = a'
    · subst hb
      rw [upd_same]
      simp
    · rw [upd_ne hb]
      exact m3
theorem SOk.at_own {i : Nat} {t : Option Nat} {ds : List PyData} (I : SOk C F ρ σ H) (hi : ρ[i]? = some (some (.own t (.lst ds)))) : ∃ a vs, σ[i]? = some (some (.ref a)) ∧ H a = some (.lst vs) ∧ DpAll C.K F vs ds := by
  obtain ⟨S, s1, s2, s3⟩ := I.own
  obtain ⟨a, e1, ⟨e2, vs, e3, e4⟩, e5⟩ := s1 i t (.lst ds) hi
  exact ⟨a, vs, e1, e3, e4⟩
end Ab

set_option maxHeartbeats 4000000
/-! Ab2: readings over abstract states, and how they stand over the hand layer's judgements. -/
namespace Ab
open PySem PySem.Spec PyProof.Rows L2

def Res (C : Fx) (F : Hp) (ρ : AS) (σ : St) (H : Hp) (v : V) : AV → Prop
  | .dat d => SOk C F ρ σ H ∧ Dp C.K F v d
  | .own t o => SOk C F (some (.own t o) :: ρ) (some v :: σ) H
  | .ali i => SOk C F ρ σ H ∧ σ[i]? = some (some v)
theorem Res.ok {C : Fx} {F : Hp} {ρ : AS} {σ : St} {H : Hp} {v : V} : ∀ {x : AV}, Res C F ρ σ H v x → SOk C F ρ σ H
  | .dat _, h => h.1
  | .own _ _, h => SOk.tail h
  | .ali _, h => h.1
abbrev ATE := AS → (AV → AS → Prop) → Prop
abbrev ATT := AS → (Bool → AS → Prop) → Prop
abbrev ATA := AS → (List AV → AS → Prop) → Prop
structure AD where
  nx : AS → Prop
  rt : AV → AS → Prop
  bk : AS → Prop
  ct : AS → Prop
abbrev ATS := AD → AS → Prop
/-- an argument's reading -/
def ArgOk (C : Fx) (F : Hp) (σ : St) (v : V) : AV → Prop
  | .dat d => Dp C.K F v d
  | .own _ _ => False
  | .ali i => σ[i]? = some (some v)
abbrev ArgsOk (C : Fx) (F : Hp) (σ : St) : List V → List AV → Prop := Paired (ArgOk C F σ)

def cE (K : PySem.W.Frag) (T : ATE) : TE := fun σ H Q => ∃ (C : Fx) (F : Hp) (ρ : AS) (Kc : AV → AS → Prop), C.K = K ∧ SOk C F ρ σ H ∧ T ρ Kc ∧ ∀ F' v x ρ' H', Same F F' → Res C F' ρ' σ H' v x → Kc x ρ' → Q v H'
def cT (K : PySem.W.Frag) (T : ATT) : TT := fun σ H Q => ∃ (C : Fx) (F : Hp) (ρ : AS) (Kc : Bool → AS → Prop), C.K = K ∧ SOk C F ρ σ H ∧ T ρ Kc ∧ ∀ F' b ρ' H', Same F F' → SOk C F' ρ' σ H' → Kc b ρ' → Q b H'
def cA (K : PySem.W.Frag) (T : ATA) : TA := fun σ H Q => ∃ (C : Fx) (F : Hp) (ρ : AS) (Kc : List AV → AS → Prop), C.K = K ∧ SOk C F ρ σ H ∧ T ρ Kc ∧ ∀ F' vs xs ρ' H', Same F F' → SOk C F' ρ' σ H' → ArgsOk C F' σ vs xs → Kc xs ρ' → Q vs H'
def cS (K : PySem.W.Frag) (T : ATS) : TS := fun D σ H => ∃ (C : Fx) (F : Hp) (ρ : AS) (A : AD), C.K = K ∧ SOk C F ρ σ H ∧ T A ρ ∧
  (∀ F' ρ' σ' H', Same F F' → SOk C F' ρ' σ' H' → A.nx ρ' → D.nx σ' H') ∧ (∀ F' ρ' σ' H' v x, Same F F' → Res C F' ρ' σ' H' v x → A.rt x ρ' → D.rt v H') ∧
  (∀ F' ρ' σ' H', Same F F' → SOk C F' ρ' σ' H' → A.bk ρ' → D.bk σ' H') ∧ (∀ F' ρ' σ' H', Same F F' → SOk C F' ρ' σ' H' → A.ct ρ' → D.ct σ' H')
def AE (X : Cx) (e : Expr) (T : ATE) : Prop := PE X e (cE X.K T)
def AT (X : Cx) (e : Expr) (T : ATT) : Prop := PT X e (cT X.K T)
def AW (X : Cx) (e : Expr) (T : ATT) : Prop := PW X e (cT X.K T)
def AA (X : Cx) (es : List Expr) (T : ATA) : Prop := PA X es (cA X.K T)
def AStm (X : Cx) (s : Stmt) (T : ATS) : Prop := PS X s (cS X.K T)
def ASs (X : Cx) (s : List Stmt) (T : ATS) : Prop := PSs X s (cS X.K T)

section
variable {X : Cx} {e : Expr} {es : List Expr} {st : Stmt} {sts : List Stmt}
theorem pe_of {t t' : TE} (h : PE X e t) (w : ∀ σ H Q, t' σ H Q → t σ H Q) : PE X e t' := ⟨fun pins s σ H Q I q => h.run pins s σ H Q I (w σ H Q q)⟩
theorem pt_of {t t' : TT} (h : PT X e t) (w : ∀ σ H Q, t' σ H Q → t σ H Q) : PT X e t' := ⟨fun pins s σ H Q I q => h.run pins s σ H Q I (w σ H Q q)⟩
theorem pw_of {t t' : TT} (h : PW X e t) (w : ∀ σ H Q, t' σ H Q → t σ H Q) : PW X e t' := ⟨fun whole pins s σ H Q I q => h.run whole pins s σ H Q I (w σ H Q q)⟩
theorem pa_of {t t' : TA} (h : PA X es t) (w : ∀ σ H Q, t' σ H Q → t σ H Q) : PA X es t' := ⟨fun pos pins s σ H Q I q => h.run pos pins s σ H Q I (w σ H Q q)⟩
theorem ps_of {t t' : TS} (h : PS X st t) (w : ∀ D σ H, t' D σ H → t D σ H) : PS X st t' := ⟨fun pins s σ H D I q => h.run pins s σ H D I (w D σ H q)⟩
theorem pss_of {t t' : TS} (h : PSs X sts t) (w : ∀ D σ H, t' D σ H → t D σ H) : PSs X sts t' := ⟨fun pins s σ H D I q => h.run pins s σ H D I (w D σ H q)⟩
end

/-! ### data operands -/
/-- a value as data (an owned fresh list is frozen) -/
def dd : AV → (PyData → Prop) → Prop
  | .dat d, k => k d
  | .own _ (.lst ds), k => k (.list ds)
  | .ali _, _ => False
theorem Res.data {C : Fx} {F : Hp} {ρ : AS} {σ : St} {H : Hp} {v : V} {x : AV} {k : PyData → Prop} (h : Res C F ρ σ H v x) (hk : dd x k) : ∃ F' d, Same F F' ∧ SOk C F' ρ σ H ∧ Dp C.K F' v d ∧ k d := by
  cases x with
  | dat d => exact ⟨F, d, Same.refl F, h.1, h.2, hk⟩
  | own t o =>
    cases o with
    | lst ds =>
      obtain ⟨F', s, I, hd⟩ := SOk.freeze h
      exact ⟨F', _, s, I, hd, hk⟩
  | ali i => exact hk.elim
abbrev S1 := PyData → (PyData → Prop) → Prop
abbrev S2 := PyData → PyData → (PyData → Prop) → Prop
/-- a reading of values by data, one and two places -/
def DR1 (K : PySem.W.Frag) (r : V → Hp → VK → Prop) (s : S1) : Prop := ∀ (C : Fx) (F : Hp) (ρ : AS) (σ : St) (H : Hp) (x : V) (dx : PyData) (Q : VK) (Kd : PyData → Prop), C.K = K → SOk C F ρ σ H → Dp C.K F x dx → s dx Kd →
  (∀ F' z d H', Same F F' → SOk C F' ρ σ H' → Dp C.K F' z d → Kd d → Q z H') → r x H Q
def DR2 (K : PySem.W.Frag) (r : R2) (s : S2) : Prop := ∀ (C : Fx) (F : Hp) (ρ : AS) (σ : St) (H : Hp) (x y : V) (dx dy : PyData) (Q : VK) (Kd : PyData → Prop), C.K = K → SOk C F ρ σ H → Dp C.K F x dx → Dp C.K F y dy → s dx dy Kd →
  (∀ F' z d H', Same F F' → SOk C F' ρ σ H' → Dp C.K F' z d → Kd d → Q z H') → r x y H Q
def aBin (s : S2) (Ta Tb : ATE) : ATE := fun ρ K => Ta ρ fun x ρ1 => dd x fun dx => Tb ρ1 fun y ρ2 => dd y fun dy => s dx dy fun d => K (.dat d) ρ2
def aUn (s : S1) (Ta : ATE) : ATE := fun ρ K => Ta ρ fun x ρ1 => dd x fun dx => s dx fun d => K (.dat d) ρ1
/-- two ways by a truth value -/
def br (b : Bool) (A B : Prop) : Prop := (b = true → A) ∧ (b = false → B)
def bb : PyData → (Bool → Prop) → Prop
  | .bool b, k => k b
  | _, _ => False
def aTst (T : ATE) : ATT := fun ρ K => T ρ fun x ρ' => dd x fun d => bb d fun b => K b ρ'
def aChain (s s' : S2) (Ta Tb Tc : ATE) : ATE := fun ρ K => Ta ρ fun x ρ1 => dd x fun dx => Tb ρ1 fun y ρ2 => dd y fun dy => s dx dy fun d => bb d fun b =>
  br b (Tc ρ2 fun z ρ3 => dd z fun dz => s' dy dz fun d' => K (.dat d') ρ3) (K (.dat (.bool false)) ρ2)
section
variable {K : PySem.W.Frag} {Ta Tb Tc : ATE} {s s' : S2} {r r' : R2}
theorem w_op (hs : DR2 K r s) : ∀ σ H Q, cE K (aBin s Ta Tb) σ H Q → tOp r (cE K Ta) (cE K Tb) σ H Q := fun σ H Q ⟨C, F, ρ, Kc, hK, I, h, q⟩ => by
  refine ⟨C, F, ρ, _, hK, I, h, fun F1 v x ρ1 H1 s1 r1 k1 => ?_⟩
  obtain ⟨F2, d, s2, I2, hd, k2⟩ := r1.data k1
  refine ⟨C, F2, ρ1, _, hK, I2, k2, fun F3 w y ρ2 H2 s3 r3 k3 => ?_⟩
  obtain ⟨F4, e, s4, I4, he, k4⟩ := r3.data k3
  exact hs C F4 ρ2 σ H2 v w d e Q _ hK I4 (dp_mono (s3.trans s4) _ _ hd) he k4 fun F5 z dz H5 s5 I5 hz kz =>
    q F5 z (.dat dz) ρ2 H5 ((((s1.trans s2).trans s3).trans s4).trans s5) ⟨I5, hz⟩ kz
theorem w_un {r : V → Hp → VK → Prop} {s : S1} (hs : DR1 K r s) : ∀ σ H Q, cE K (aUn s Ta) σ H Q → tUn r (cE K Ta) σ H Q := fun σ H Q ⟨C, F, ρ, Kc, hK, I, h, q⟩ => by
  refine ⟨C, F, ρ, _, hK, I, h, fun F1 v x ρ1 H1 s1 r1 k1 => ?_⟩
  obtain ⟨F2, d, s2, I2, hd, k2⟩ := r1.data k1
  exact hs C F2 ρ1 σ H1 v d Q _ hK I2 hd k2 fun F5 z dz H5 s5 I5 hz kz => q F5 z (.dat dz) ρ1 H5 ((s1.trans s2).trans s5) ⟨I5, hz⟩ kz
theorem dp_bool {C : Fx} {F : Hp} {z : V} {d : PyData} {k : Bool → Prop} (h : Dp C.K F z d) (hb : bb d k) : ∃ b, z = .bl b ∧ d = .bool b ∧ k b := by
  cases h with
  | bl b => exact ⟨b, rfl, rfl, hb⟩
  | _ => exact hb.elim
theorem w_chain (hs : DR2 K r s) (hs' : DR2 K r' s') : ∀ σ H Q, cE K (aChain s s' Ta Tb Tc) σ H Q → tChain r r' (cE K Ta) (cE K Tb) (cE K Tc) σ H Q := fun σ H Q ⟨C, F, ρ, Kc, hK, I, h, q⟩ => by
  refine ⟨C, F, ρ, _, hK, I, h, fun F1 v x ρ1 H1 s1 r1 k1 => ?_⟩
  obtain ⟨F2, d, s2, I2, hd, k2⟩ := r1.data k1
  refine ⟨C, F2, ρ1, _, hK, I2, k2, fun F3 w y ρ2 H2 s3 r3 k3 => ?_⟩
  obtain ⟨F4, e, s4, I4, he, k4⟩ := r3.data k3
  refine hs C F4 ρ2 σ H2 v w d e _ _ hK I4 (dp_mono (s3.trans s4) _ _ hd) he k4 fun F5 z dz H5 s5 I5 hz kz => ?_
  obtain ⟨b, rfl, rfl, k5⟩ := dp_bool hz kz
  refine ⟨b, rfl, ?_⟩
  have sA := ((((s1.trans s2).trans s3).trans s4).trans s5)
  cases b with
  | true =>
    rw [if_pos rfl]
    refine ⟨C, F5, ρ2, _, hK, I5, k5.1 rfl, fun F6 u z ρ3 H6 s6 r6 k6 => ?_⟩
    obtain ⟨F7, f, s7, I7, hf, k7⟩ := r6.data k6
    exact hs' C F7 ρ3 σ H6 w u e f Q _ hK I7 (dp_mono ((s5.trans s6).trans s7) _ _ he) hf k7 fun F8 z8 d8 H8 s8 I8 h8 k8 =>
      q F8 z8 (.dat d8) ρ3 H8 (((sA.trans s6).trans s7).trans s8) ⟨I8, h8⟩ k8
  | false =>
    rw [if_neg (by simp)]
    exact q F5 _ (.dat (.bool false)) ρ2 H5 sA ⟨I5, .bl false⟩ (k5.2 rfl)
/-- a test by its value -/
theorem w_tst {T : ATE} {t : TE} (w : ∀ σ H Q, cE K T σ H Q → t σ H Q) : ∀ σ H Q, cT K (aTst T) σ H Q → tTest t σ H Q := fun σ H Q ⟨C, F, ρ, Kc, hK, I, h, q⟩ => by
  refine w σ H _ ⟨C, F, ρ, _, hK, I, h, fun F1 v x ρ1 H1 s1 r1 k1 => ?_⟩
  obtain ⟨F2, d, s2, I2, hd, k2⟩ := r1.data k1
  obtain ⟨b, rfl, rfl, k3⟩ := dp_bool hd k2
  exact ⟨b, rfl, q F2 b ρ1 H1 (s1.trans s2) I2 k3⟩
end
section
variable {X : Cx} {a b c e : Expr} {Ta Tb Tc : ATE} {Ua Ub : ATT} {s s' : S2} {r r' : R2} {pos : Pos}
theorem e_op {op : Operator} (ho : OpR X (binaryOp op) r) (hs : DR2 X.K r s) (ha : AE X a Ta) (hb : AE X b Tb) : AE X (.BinOp a op b pos) (aBin s Ta Tb) := pe_of (pe_op ho ha hb) (w_op hs)
theorem e_un {op : UnaryOp} {r : V → Hp → VK → Prop} {s : S1} (ho : UnR X (unaryOp op) r) (hs : DR1 X.K r s) (ha : AE X a Ta) : AE X (.UnaryOp op a pos) (aUn s Ta) := pe_of (pe_un ho ha) (w_un hs)
theorem e_cmp {op : CmpOp} (ho : OpR X (compareOp op) r) (hs : DR2 X.K r s) (ha : AE X a Ta) (hb : AE X b Tb) (hm : behindInMarks op b = false) : AE X (.Compare a [op] [b] pos) (aBin s Ta Tb) := pe_of (pe_cmpR ho ha hb hm) (w_op hs)
theorem t_cmp {op : CmpOp} (ho : OpR X (compareOp op) r) (hs : DR2 X.K r s) (ha : AE X a Ta) (hb : AE X b Tb) (hm : behindInMarks op b = false) : AT X (.Compare a [op] [b] pos) (aTst (aBin s Ta Tb)) := pt_of (pt_cmpR ho ha hb hm) (w_tst (w_op hs))
theorem e_chain {op op' : CmpOp} (ho : OpR X (compareOp op) r) (hs : DR2 X.K r s) (ho' : OpR X (compareOp op') r') (hs' : DR2 X.K r' s') (ha : AE X a Ta) (hb : AE X b Tb) (hc : AE X c Tc) (hm : lastMarks [op, op'] [b, c] = false := by with_unfolding_all rfl) :
    AE X (.Compare a [op, op'] [b, c] pos) (aChain s s' Ta Tb Tc) := pe_of (pe_chain ho ho' ha hb hc hm) (w_chain hs hs')
theorem t_chain {op op' : CmpOp} (ho : OpR X (compareOp op) r) (hs : DR2 X.K r s) (ho' : OpR X (compareOp op') r') (hs' : DR2 X.K r' s') (ha : AE X a Ta) (hb : AE X b Tb) (hc : AE X c Tc) (hm : lastMarks [op, op'] [b, c] = false := by with_unfolding_all rfl) :
    AT X (.Compare a [op, op'] [b, c] pos) (aTst (aChain s s' Ta Tb Tc)) := pt_of (pt_chain ho ho' ha hb hc hm) (w_tst (w_chain hs hs'))
theorem t_val (ha : AE X e Ta) (he : ∀ whole, isTrue e X.env whole = (do let v ← whole; standAt e.pos; holding [v] (truthy v)) := by intro _; rfl) : AT X e (aTst Ta) := pt_of (pt_val ha he) fun σ H Q h => w_tst (K := X.K) (fun _ _ _ z => z) σ H Q h

def aNot (U : ATT) : ATT := fun ρ K => U ρ fun b ρ' => K (!b) ρ'
def aAnd (U V : ATT) : ATT := fun ρ K => U ρ fun b ρ' => br b (V ρ' K) (K false ρ')
def aOr (U V : ATT) : ATT := fun ρ K => U ρ fun b ρ' => br b (K true ρ') (V ρ' K)
theorem t_not (ha : AT X a Ua) : AT X (.UnaryOp .Not a pos) (aNot Ua) := pt_of (pt_not ha) fun σ H Q ⟨C, F, ρ, Kc, hK, I, h, q⟩ => ⟨C, F, ρ, _, hK, I, h, fun F1 b ρ1 H1 s1 I1 k1 => q F1 (!b) ρ1 H1 s1 I1 k1⟩
theorem w_and {K : PySem.W.Frag} : ∀ σ H Q, cT K (aAnd Ua Ub) σ H Q → tAnd (cT K Ua) (cT K Ub) σ H Q := fun σ H Q ⟨C, F, ρ, Kc, hK, I, h, q⟩ => by
  refine ⟨C, F, ρ, _, hK, I, h, fun F1 b ρ1 H1 s1 I1 k1 => ?_⟩
  cases b with
  | true =>
    rw [if_pos rfl]
    exact ⟨C, F1, ρ1, _, hK, I1, k1.1 rfl, fun F2 b ρ2 H2 s2 I2 k2 => q F2 b ρ2 H2 (s1.trans s2) I2 k2⟩
  | false =>
    rw [if_neg (by simp)]
    exact q F1 false ρ1 H1 s1 I1 (k1.2 rfl)
theorem w_or {K : PySem.W.Frag} : ∀ σ H Q, cT K (aOr Ua Ub) σ H Q → tOr (cT K Ua) (cT K Ub) σ H Q := fun σ H Q ⟨C, F, ρ, Kc, hK, I, h, q⟩ => by
  refine ⟨C, F, ρ, _, hK, I, h, fun F1 b ρ1 H1 s1 I1 k1 => ?_⟩
  cases b with
  | false =>
    rw [if_neg (by simp)]
    exact ⟨C, F1, ρ1, _, hK, I1, k1.2 rfl, fun F2 b ρ2 H2 s2 I2 k2 => q F2 b ρ2 H2 (s1.trans s2) I2 k2⟩
  | true =>
    rw [if_pos rfl]
    exact q F1 true ρ1 H1 s1 I1 (k1.1 rfl)
theorem w_and1 (ha : AT X a Ua) : AW X (.BoolOp .And [a] pos) Ua := pw_and1 ha
theorem w_or1 (ha : AT X a Ua) : AW X (.BoolOp .Or [a] pos) Ua := pw_or1 ha
theorem w_andC {rest : List Expr} (ha : AT X a Ua) (hb : AW X (.BoolOp .And (b :: rest) pos) Ub) : AW X (.BoolOp .And (a :: b :: rest) pos) (aAnd Ua Ub) := pw_of (pw_and ha hb) w_and
theorem w_orC {rest : List Expr} (ha : AT X a Ua) (hb : AW X (.BoolOp .Or (b :: rest) pos) Ub) : AW X (.BoolOp .Or (a :: b :: rest) pos) (aOr Ua Ub) := pw_of (pw_or ha hb) w_or
theorem t_w (h : AW X e Ua) : AT X e Ua := PW.pt h

/-! values: names, constants -/
def aName (i : Nat) : ATE := fun ρ K => match ρ[i]? with
  | some (some (.dat d)) => K (.dat d) ρ
  | some (some (.own _ _)) => K (.ali i) ρ
  | _ => False
def aC (d : PyData) : ATE := fun ρ K => K (.dat d) ρ
theorem e_name {i : Nat} (h : PE X e (tVar i)) : AE X e (aName i) := pe_of h fun σ H Q ⟨C, F, ρ, Kc, hK, I, h, q⟩ => by
  unfold aName at h
  split at h
  · rename_i d hd
    obtain ⟨v, e1, e2⟩ := I.dat i d hd
    exact ⟨v, e1, q F v (.dat d) ρ H (Same.refl F) ⟨I, e2⟩ h⟩
  · rename_i t o ho
    obtain ⟨S, s1, _, _⟩ := I.own
    obtain ⟨a, e1, _⟩ := s1 i t o ho
    exact ⟨.ref a, e1, q F _ (.ali i) ρ H (Same.refl F) ⟨I, e1⟩ h⟩
  · exact h.elim
theorem e_c {v : V} {d : PyData} (h : PE X e (tC v)) (hd : ∀ K F, Dp K F v d) : AE X e (aC d) := pe_of h fun σ H Q ⟨C, F, ρ, Kc, hK, I, h, q⟩ => q F v (.dat d) ρ H (Same.refl F) ⟨I, hd _ _⟩ h
theorem e_int {i : Int} {j pos} : AE X (.Constant (.int i) j pos) (aC (.int i)) := e_c pe_int fun _ _ => .int i
theorem e_str {x : Str} {j pos} : AE X (.Constant (.str x) j pos) (aC (.str x)) := e_c pe_str fun _ _ => .str x
theorem e_bl {x : Bool} {j pos} : AE X (.Constant (.bool x) j pos) (aC (.bool x)) := e_c pe_bl fun _ _ => .bl x
theorem e_non {j pos} : AE X (.Constant .none j pos) (aC .none) := e_c pe_non fun _ _ => .non
/-- x if t else y -/
def aIfE (U : ATT) (Ta Tb : ATE) : ATE := fun ρ K => U ρ fun b ρ' => br b (Ta ρ' K) (Tb ρ' K)
theorem e_ifExp (hc : AT X c Ua) (ha : AE X a Ta) (hb : AE X b Tb) : AE X (.IfExp c a b pos) (aIfE Ua Ta Tb) := pe_of (pe_ifExp hc ha hb) fun σ H Q ⟨C, F, ρ, Kc, hK, I, h, q⟩ => by
  refine ⟨C, F, ρ, _, hK, I, h, fun F1 b ρ1 H1 s1 I1 k1 => ?_⟩
  cases b with
  | true =>
    rw [if_pos rfl]
    exact ⟨C, F1, ρ1, _, hK, I1, k1.1 rfl, fun F2 v x ρ2 H2 s2 r2 k2 => q F2 v x ρ2 H2 (s1.trans s2) r2 k2⟩
  | false =>
    rw [if_neg (by simp)]
    exact ⟨C, F1, ρ1, _, hK, I1, k1.2 rfl, fun F2 v x ρ2 H2 s2 r2 k2 => q F2 v x ρ2 H2 (s1.trans s2) r2 k2⟩
/-- and, or, not as values, all but the last truth values -/
def aAndV (Ta Tb : ATE) : ATE := fun ρ K => Ta ρ fun x ρ1 => dd x fun d => bb d fun b => br b (Tb ρ1 K) (K (.dat (.bool false)) ρ1)
def aOrV (Ta Tb : ATE) : ATE := fun ρ K => Ta ρ fun x ρ1 => dd x fun d => bb d fun b => br b (K (.dat (.bool true)) ρ1) (Tb ρ1 K)
def aNotV (Ta : ATE) : ATE := fun ρ K => Ta ρ fun x ρ1 => dd x fun d => bb d fun b => K (.dat (.bool !b)) ρ1
theorem e_one {op} (h : AE X a Ta) : AE X (.BoolOp op [a] pos) Ta := pe_one h
theorem e_and {rest : List Expr} (ha : AE X a Ta) (hb : AE X (.BoolOp .And (b :: rest) pos) Tb) : AE X (.BoolOp .And (a :: b :: rest) pos) (aAndV Ta Tb) := pe_of (pe_and ha hb) fun σ H Q ⟨C, F, ρ, Kc, hK, I, h, q⟩ => by
  refine ⟨C, F, ρ, _, hK, I, h, fun F1 v x ρ1 H1 s1 r1 k1 => ?_⟩
  obtain ⟨F2, d, s2, I2, hd, k2⟩ := r1.data k1
  obtain ⟨k, rfl, rfl, k3⟩ := dp_bool hd k2
  refine ⟨k, rfl, ?_⟩
  cases k with
  | true =>
    rw [if_pos rfl]
    exact ⟨C, F2, ρ1, _, hK, I2, k3.1 rfl, fun F3 v x ρ2 H2 s3 r3 k3 => q F3 v x ρ2 H2 ((s1.trans s2).trans s3) r3 k3⟩
  | false =>
    rw [if_neg (by simp)]
    exact q F2 _ (.dat (.bool false)) ρ1 H1 (s1.trans s2) ⟨I2, .bl false⟩ (k3.2 rfl)
theorem e_or {rest : List Expr} (ha : AE X a Ta) (hb : AE X (.BoolOp .Or (b :: rest) pos) Tb) : AE X (.BoolOp .Or (a :: b :: rest) pos) (aOrV Ta Tb) := pe_of (pe_or ha hb) fun σ H Q ⟨C, F, ρ, Kc, hK, I, h, q⟩ => by
  refine ⟨C, F, ρ, _, hK, I, h, fun F1 v x ρ1 H1 s1 r1 k1 => ?_⟩
  obtain ⟨F2, d, s2, I2, hd, k2⟩ := r1.data k1
  obtain ⟨k, rfl, rfl, k3⟩ := dp_bool hd k2
  refine ⟨k, rfl, ?_⟩
  cases k with
  | false =>
    rw [if_neg (by simp)]
    exact ⟨C, F2, ρ1, _, hK, I2, k3.2 rfl, fun F3 v x ρ2 H2 s3 r3 k3 => q F3 v x ρ2 H2 ((s1.trans s2).trans s3) r3 k3⟩
  | true =>
    rw [if_pos rfl]
    exact q F2 _ (.dat (.bool true)) ρ1 H1 (s1.trans s2) ⟨I2, .bl true⟩ (k3.1 rfl)
theorem e_not (ha : AE X a Ta) : AE X (.UnaryOp .Not a pos) (aNotV Ta) := pe_of (pe_not ha) fun σ H Q ⟨C, F, ρ, Kc, hK, I, h, q⟩ => by
  refine ⟨C, F, ρ, _, hK, I, h, fun F1 v x ρ1 H1 s1 r1 k1 => ?_⟩
  obtain ⟨F2, d, s2, I2, hd, k2⟩ := r1.data k1
  obtain ⟨k, rfl, rfl, k3⟩ := dp_bool hd k2
  exact ⟨k, rfl, q F2 _ (.dat (.bool !k)) ρ1 H1 (s1.trans s2) ⟨I2, .bl _⟩ k3⟩

/-! ### arguments, displays -/
def aNil : ATA := fun ρ K => K [] ρ
/-- an argument: data, or the owned object of a slot -/
def arg : AV → (AV → Prop) → Prop
  | .own _ (.lst ds), k => k (.dat (.list ds))
  | x, k => k x
def aCons (Ta : ATE) (Tr : ATA) : ATA := fun ρ K => Ta ρ fun x ρ1 => arg x fun y => Tr ρ1 fun xs ρ2 => K (y :: xs) ρ2
theorem Res.arg {C : Fx} {F : Hp} {ρ : AS} {σ : St} {H : Hp} {v : V} {x : AV} {k : AV → Prop} (h : Res C F ρ σ H v x) (hk : arg x k) : ∃ F' y, Same F F' ∧ SOk C F' ρ σ H ∧ ArgOk C F' σ v y ∧ k y := by
  cases x with
  | dat d => exact ⟨F, .dat d, Same.refl F, h.1, h.2, hk⟩
  | own t o =>
    cases o with
    | lst ds =>
      obtain ⟨F', s, I, hd⟩ := SOk.freeze h
      exact ⟨F', .dat (.list ds), s, I, hd, hk⟩
  | ali i => exact ⟨F, .ali i, Same.refl F, h.1, h.2, hk⟩
theorem ArgOk.mono {C : Fx} {F F' : Hp} {σ : St} {v : V} (e : Same F F') : ∀ {y : AV}, ArgOk C F σ v y → ArgOk C F' σ v y
  | .dat d, h => dp_mono e d v h
  | .own _ _, h => h
  | .ali _, h => h
theorem x_nil : AA X [] aNil := pa_of pa_nil fun σ H Q ⟨C, F, ρ, Kc, hK, I, h, q⟩ => q F [] [] ρ H (Same.refl F) I .nil h
theorem x_cons {es : List Expr} {Tr : ATA} (ha : AE X e Ta) (hr : AA X es Tr) (hs : starEach (e :: es) X.env = (false, eval e X.env) :: starEach es X.env := by rfl) : AA X (e :: es) (aCons Ta Tr) := pa_of (pa_cons ha hr hs) fun σ H Q ⟨C, F, ρ, Kc, hK, I, h, q⟩ => by
  refine ⟨C, F, ρ, _, hK, I, h, fun F1 v x ρ1 H1 s1 r1 k1 => ?_⟩
  obtain ⟨F2, y, s2, I2, hy, k2⟩ := r1.arg k1
  exact ⟨C, F2, ρ1, _, hK, I2, k2, fun F3 vs xs ρ2 H2 s3 I3 h3 k3 => q F3 (v :: vs) (y :: xs) ρ2 H2 ((s1.trans s2).trans s3) I3 (.cons (hy.mono s3) h3) k3⟩
/-- all arguments data -/
def das : List AV → (List PyData → Prop) → Prop
  | [], k => k []
  | .dat d :: r, k => das r fun ds => k (d :: ds)
  | _ :: _, _ => False
theorem das_ok {C : Fx} {F : Hp} {σ : St} : ∀ {xs : List AV} {vs : List V} {k : List PyData → Prop}, ArgsOk C F σ vs xs → das xs k → ∃ ds, DpAll C.K F vs ds ∧ k ds
  | [], _, _, .nil, h => ⟨[], .nil, h⟩
  | .dat d :: r, _, k, .cons h1 h2, h => by
    obtain ⟨ds, g1, g2⟩ := das_ok h2 h
    exact ⟨d :: ds, .cons h1 g1, g2⟩
  | .own _ _ :: _, _, _, .cons _ _, h => h.elim
  | .ali _ :: _, _, _, .cons _ _, h => h.elim
def aTup (Ta : ATA) : ATE := fun ρ K => Ta ρ fun xs ρ' => das xs fun ds => ds.length ≤ sizeLine ∧ K (.dat (.tuple ds)) ρ'
def aLst (Ta : ATA) : ATE := fun ρ K => Ta ρ fun xs ρ' => das xs fun ds => ds.length ≤ sizeLine ∧ K (.own none (.lst ds)) ρ'
theorem e_tup {es : List Expr} {Tr : ATA} {x1} (h : AA X es Tr) : AE X (.Tuple es x1 pos) (aTup Tr) := pe_of (pe_tup h) fun σ H Q ⟨C, F, ρ, Kc, hK, I, h, q⟩ => by
  refine ⟨C, F, ρ, _, hK, I, h, fun F1 vs xs ρ1 H1 s1 I1 h1 k1 => ?_⟩
  obtain ⟨ds, hd, hl, k2⟩ := das_ok h1 k1
  refine ⟨by rw [dpa_len hd]; exact hl, fun p hp => ?_⟩
  have s2 : Same F1 (upd F1 p (.tup vs)) := same_upd' (I1.fnone hp)
  exact q _ (.ref p) (.dat (.tuple ds)) ρ1 _ (s1.trans s2) ⟨I1.imm hp, dp_tup upd_same (dpa_mono s2 _ _ hd)⟩ k2
theorem e_lst {es : List Expr} {Tr : ATA} (h : AA X es Tr) : AE X (.List es pos) (aLst Tr) := pe_of (pe_lst h) fun σ H Q ⟨C, F, ρ, Kc, hK, I, h, q⟩ => by
  refine ⟨C, F, ρ, _, hK, I, h, fun F1 vs xs ρ1 H1 s1 I1 h1 k1 => ?_⟩
  obtain ⟨ds, hd, hl, k2⟩ := das_ok h1 k1
  refine ⟨by rw [dpa_len hd]; exact hl, fun p hp => ?_⟩
  exact q F1 (.ref p) (.own none (.lst ds)) ρ1 _ s1 (I1.newOwn hp hd) k2
end
end Ab

set_option maxHeartbeats 4000000
/-! Ab3: sequences: what a value contains, calls of built-ins on them, operators by data. -/
namespace Ab
open PySem PySem.Spec PyProof.Rows L2

/-- a list (true) or a tuple that is read -/
def Seq (K : PySem.W.Frag) (H : Hp) (b : Bool) (a : Addr) (vs : List V) : Prop := match b with
  | true => SqL K H a vs
  | false => SqT K H a vs
theorem Seq.mono {K : PySem.W.Frag} {H H' : Hp} {a : Addr} {vs : List V} (e : Same H H') : ∀ {b : Bool}, Seq K H b a vs → Seq K H' b a vs
  | true, h => e.seq h
  | false, h => same_t e h
def contS : Option (Option AV) → (Bool → List PyData → Prop) → Prop
  | some (some (.own _ (.lst ds))), k => k true ds
  | _, _ => False
/-- what a value contains: a list (true) or a tuple -/
def cont (ρ : AS) : AV → (Bool → List PyData → Prop) → Prop
  | .dat (.list ds), k => k true ds
  | .dat (.tuple ds), k => k false ds
  | .own _ (.lst ds), k => k true ds
  | .ali i, k => contS ρ[i]? k
  | _, _ => False
theorem ArgOk.cont {C : Fx} {F : Hp} {ρ : AS} {σ : St} {H : Hp} {v : V} {y : AV} {k : Bool → List PyData → Prop} (I : SOk C F ρ σ H) (h : ArgOk C F σ v y) (hk : cont ρ y k) : ∃ a vs b ds, v = .ref a ∧ Seq C.K H b a vs ∧ (b = false → SqT C.K F a vs) ∧ DpAll C.K F vs ds ∧ k b ds := by
  cases y with
  | dat d =>
    have h : Dp C.K F v d := h
    cases h with
    | lst hs ha => exact ⟨_, _, true, _, rfl, I.fz.seq hs, (fun z => nomatch z), ha, hk⟩
    | tup hs ha => exact ⟨_, _, false, _, rfl, same_t I.fz hs, (fun _ => hs), ha, hk⟩
    | _ => exact hk.elim
  | own t o => exact h.elim
  | ali i =>
    have h : σ[i]? = some (some v) := h
    have hk : contS ρ[i]? k := hk
    generalize hi : ρ[i]? = oi at hk
    unfold contS at hk
    split at hk
    · skip
      obtain ⟨a, vs, e1, e2, e3⟩ := I.at_own hi
      rw [h] at e1
      have ev : v = .ref a := by simpa using e1
      subst ev
      exact ⟨a, vs, true, _, rfl, .inl (.inl e2), (fun z => nomatch z), e3, hk⟩
    · exact hk.elim
/-- reads as data -/
theorem seq_reads {X : Cx} {pins : List (Addr × Obj)} {σ : St} {H F : Hp} {s : Shared} {b : Bool} {a : Addr} {vs : List V} {ds : List PyData} (I : Inv X pins σ H s) (h : Seq X.K H b a vs) (hf : Same F H) (ha : DpAll X.K F vs ds) :
    ∃ its as, Vals vs its ∧ ReadsAll s.heap its ds as ∧ (if b = true then s.heap.IsList a its.toArray else s.heap.IsTuple a its.toArray) := by
  cases b with
  | true =>
    obtain ⟨its, r, p, _⟩ := I.list h
    obtain ⟨as, q⟩ := Dp.readsAll I ds vs its (dpa_mono hf _ _ ha) r
    exact ⟨its, as, r, q, by rw [if_pos rfl]; exact p.isList⟩
  | false =>
    obtain ⟨its, r, p, _⟩ := I.tuple h
    obtain ⟨as, q⟩ := Dp.readsAll I ds vs its (dpa_mono hf _ _ ha) r
    refine ⟨its, as, r, q, ?_⟩
    rw [if_neg (by simp)]
    obtain ⟨o, h1, h2, n, h3⟩ := p
    exact ⟨o, h1, h2, n, h3⟩

/-! ### a call with one sequence -/
abbrev SC := Bool → List PyData → (AV → Prop) → Prop
def DC (K : PySem.W.Frag) (r : List V → Hp → VK → Prop) (s : SC) : Prop := ∀ (C : Fx) (F : Hp) (ρ : AS) (σ : St) (H : Hp) (a : Addr) (vs : List V) (b : Bool) (ds : List PyData) (Q : VK) (Kd : AV → Prop), C.K = K → SOk C F ρ σ H → Seq K H b a vs → (b = false → SqT K F a vs) → DpAll K F vs ds → s b ds Kd →
  (∀ F' z x H', Same F F' → Res C F' ρ σ H' z x → Kd x → Q z H') → r [.ref a] H Q
def aCall1 (s : SC) (Ta : ATE) : ATE := fun ρ K => Ta ρ fun x ρ1 => arg x fun y => cont ρ1 y fun b ds => s b ds fun z => K z ρ1
theorem w_call1 {K : PySem.W.Frag} {r : List V → Hp → VK → Prop} {s : SC} {Ta : ATE} (hs : DC K r s) : ∀ σ H Q, cE K (aCall1 s Ta) σ H Q → tCB r (tCons (cE K Ta) tNil) σ H Q := fun σ H Q ⟨C, F, ρ, Kc, hK, I, h, q⟩ => by
  refine ⟨C, F, ρ, _, hK, I, h, fun F1 v x ρ1 H1 s1 r1 k1 => ?_⟩
  obtain ⟨F2, y, s2, I2, hy, k2⟩ := r1.arg k1
  obtain ⟨a, vs, b, ds, rfl, h3, h3', h4, k3⟩ := hy.cont I2 k2
  subst hK
  exact hs C F2 ρ1 σ H1 a vs b ds Q _ rfl I2 h3 h3' h4 k3 fun F3 z x H3 s3 r3 k4 => q F3 z x ρ1 H3 ((s1.trans s2).trans s3) r3 k4
section
variable {X : Cx} {e : Expr} {Ta : ATE} {s : SC} {r : List V → Hp → VK → Prop} {x : Str} {id T : String} {p pos : Pos}
theorem e_callB (hc : CallR X (.builtin id) r) (hs : DC X.K r s) (hg : Gl X x) (hm : X.mg x = none) (hv : bootBuiltins x = some (.builtin id)) (ha : AE X e Ta) (hn : x ≠ "__name__" := by decide) (hdb : (x == ("__debug__" : Str)) = false := by decide)
    (hst : starEach [e] X.env = (false, eval e X.env) :: starEach [] X.env := by rfl) : AE X (.Call (.Name x p) [e] [] pos) (aCall1 s Ta) :=
  pe_of (pe_callB hc hg hm hv (pa_cons ha pa_nil hst) hn hdb hst rfl) (w_call1 hs)
theorem e_callTy (hc : CallR X (.type T) r) (hs : DC X.K r s) (hg : Gl X x) (hm : X.mg x = none) (hv : bootBuiltins x = some (.type T)) (ha : AE X e Ta) (hn : x ≠ "__name__" := by decide) (hdb : (x == ("__debug__" : Str)) = false := by decide)
    (hst : starEach [e] X.env = (false, eval e X.env) :: starEach [] X.env := by rfl) : AE X (.Call (.Name x p) [e] [] pos) (aCall1 s Ta) :=
  pe_of (pe_callTy hc hg hm hv (pa_cons ha pa_nil hst) hn hdb hst rfl) (w_call1 hs)
end
/-- a call with one data argument, by data -/
def aCallD (s : S1) (Ta : ATE) : ATE := fun ρ K => Ta ρ fun x ρ1 => dd x fun d => s d fun z => K (.dat z) ρ1
theorem w_callD {K : PySem.W.Frag} {r : List V → Hp → VK → Prop} {s : S1} {Ta : ATE} (hs : DR1 K (fun x H Q => r [x] H Q) s) : ∀ σ H Q, cE K (aCallD s Ta) σ H Q → tCB r (tCons (cE K Ta) tNil) σ H Q := fun σ H Q ⟨C, F, ρ, Kc, hK, I, h, q⟩ => by
  refine ⟨C, F, ρ, _, hK, I, h, fun F1 v x ρ1 H1 s1 r1 k1 => ?_⟩
  obtain ⟨F2, d, s2, I2, hd, k2⟩ := r1.data k1
  exact hs C F2 ρ1 σ H1 v d Q _ hK I2 hd k2 fun F5 z dz H5 s5 I5 hz kz => q F5 z (.dat dz) ρ1 H5 ((s1.trans s2).trans s5) ⟨I5, hz⟩ kz
section
variable {X : Cx} {e : Expr} {Ta : ATE} {s : S1} {r : List V → Hp → VK → Prop} {x : Str} {id T : String} {p pos : Pos}
theorem e_callBD (hc : CallR X (.builtin id) r) (hs : DR1 X.K (fun x H Q => r [x] H Q) s) (hg : Gl X x) (hm : X.mg x = none) (hv : bootBuiltins x = some (.builtin id)) (ha : AE X e Ta) (hn : x ≠ "__name__" := by decide) (hdb : (x == ("__debug__" : Str)) = false := by decide)
    (hst : starEach [e] X.env = (false, eval e X.env) :: starEach [] X.env := by rfl) : AE X (.Call (.Name x p) [e] [] pos) (aCallD s Ta) :=
  pe_of (pe_callB hc hg hm hv (pa_cons ha pa_nil hst) hn hdb hst rfl) (w_callD hs)
theorem e_callTyD (hc : CallR X (.type T) r) (hs : DR1 X.K (fun x H Q => r [x] H Q) s) (hg : Gl X x) (hm : X.mg x = none) (hv : bootBuiltins x = some (.type T)) (ha : AE X e Ta) (hn : x ≠ "__name__" := by decide) (hdb : (x == ("__debug__" : Str)) = false := by decide)
    (hst : starEach [e] X.env = (false, eval e X.env) :: starEach [] X.env := by rfl) : AE X (.Call (.Name x p) [e] [] pos) (aCallD s Ta) :=
  pe_of (pe_callTy hc hg hm hv (pa_cons ha pa_nil hst) hn hdb hst rfl) (w_callD hs)
end

/-! ### what data decode to -/
def bools : List PyData → Option (List Bool)
  | [] => some []
  | .bool b :: r => (bools r).map (b :: ·)
  | _ :: _ => none
def intsD : List PyData → Option (List Int)
  | [] => some []
  | .int b :: r => (intsD r).map (b :: ·)
  | _ :: _ => none
def got {α : Type} : Option α → (α → Prop) → Prop
  | some x, k => k x
  | none, _ => False
theorem bools_ok {K : PySem.W.Frag} {F : Hp} : ∀ {ds : List PyData} {bs : List Bool} {vs : List V}, bools ds = some bs → DpAll K F vs ds → vs = bs.map V.bl ∧ ds = bs.map PyData.bool
  | [], bs, _, e, h => by cases h; cases e; exact ⟨rfl, rfl⟩
  | .bool b :: r, bs, _, e, h => by
    cases h with
    | cons h1 h2 =>
      unfold bools at e
      obtain ⟨q, e1, rfl⟩ := Option.map_eq_some_iff.mp e
      obtain ⟨rfl, rfl⟩ := bools_ok e1 h2
      cases h1
      exact ⟨rfl, rfl⟩
  | .none :: r, _, _, e, _ => by cases e
  | .int _ :: r, _, _, e, _ => by cases e
  | .str _ :: r, _, _, e, _ => by cases e
  | .list _ :: r, _, _, e, _ => by cases e
  | .tuple _ :: r, _, _, e, _ => by cases e
  | .dict _ :: r, _, _, e, _ => by cases e
theorem intsD_ok {K : PySem.W.Frag} {F : Hp} : ∀ {ds : List PyData} {bs : List Int} {vs : List V}, intsD ds = some bs → DpAll K F vs ds → vs = bs.map V.int ∧ ds = bs.map PyData.int
  | [], bs, _, e, h => by cases h; cases e; exact ⟨rfl, rfl⟩
  | .int b :: r, bs, _, e, h => by
    cases h with
    | cons h1 h2 =>
      unfold intsD at e
      obtain ⟨q, e1, rfl⟩ := Option.map_eq_some_iff.mp e
      obtain ⟨rfl, rfl⟩ := intsD_ok e1 h2
      cases h1
      exact ⟨rfl, rfl⟩
  | .none :: r, _, _, e, _ => by cases e
  | .bool _ :: r, _, _, e, _ => by cases e
  | .str _ :: r, _, _, e, _ => by cases e
  | .list _ :: r, _, _, e, _ => by cases e
  | .tuple _ :: r, _, _, e, _ => by cases e
  | .dict _ :: r, _, _, e, _ => by cases e
@[simp] theorem bools_map {α : Type} (f : α → Bool) : ∀ xs : List α, bools (xs.map fun x => PyData.bool (f x)) = some (xs.map f)
  | [] => rfl
  | x :: xs => by simp [bools, bools_map f xs]
@[simp] theorem intsD_map {α : Type} (f : α → Int) : ∀ xs : List α, intsD (xs.map fun x => PyData.int (f x)) = some (xs.map f)
  | [] => rfl
  | x :: xs => by simp [intsD, intsD_map f xs]
@[simp] theorem intsD_map' : ∀ xs : List Int, intsD (xs.map PyData.int) = some xs
  | [] => rfl
  | x :: xs => by simp [intsD, intsD_map' xs]
theorem got_ok {α : Type} {o : Option α} {k : α → Prop} (h : got o k) : ∃ x, o = some x ∧ k x := by
  cases o with
  | none => exact h.elim
  | some x => exact ⟨x, rfl, h⟩

/-! ### the built-ins -/
section
variable {X : Cx}
def sLen : SC := fun _ ds k => k (.dat (.int ds.length))
theorem dc_len {K : PySem.W.Frag} : DC K (fun xs H Q => ∃ p ys, xs = [.ref p] ∧ (SqL K H p ys ∨ SqT K H p ys) ∧ Q (.int ys.length) H) sLen := fun C F ρ σ H a vs b ds Q Kd hK I hs hs' ha hk q => by
  refine ⟨a, vs, rfl, ?_, ?_⟩
  · cases b with
    | true => exact .inl hs
    | false => exact .inr hs
  · rw [dpa_len ha]
    exact q F _ (.dat _) H (Same.refl F) ⟨I, .int _⟩ hk
def sAny : SC := fun b ds k => b = true ∧ got (bools ds) fun bs => k (.dat (.bool (bs.any id)))
def sAll : SC := fun b ds k => b = true ∧ got (bools ds) fun bs => k (.dat (.bool (bs.all id)))
theorem dc_any {K : PySem.W.Frag} : DC K (rAny K) sAny := fun C F ρ σ H a vs b ds Q Kd hK I hs hs' ha ⟨hb, hk⟩ q => by
  obtain ⟨bs, e, hk2⟩ := got_ok hk
  obtain ⟨rfl, rfl⟩ := bools_ok e ha
  subst hb
  exact ⟨a, bs, rfl, hs, q F _ (.dat _) H (Same.refl F) ⟨I, .bl _⟩ hk2⟩
theorem dc_all {K : PySem.W.Frag} : DC K (rAll K) sAll := fun C F ρ σ H a vs b ds Q Kd hK I hs hs' ha ⟨hb, hk⟩ q => by
  obtain ⟨bs, e, hk2⟩ := got_ok hk
  obtain ⟨rfl, rfl⟩ := bools_ok e ha
  subst hb
  exact ⟨a, bs, rfl, hs, q F _ (.dat _) H (Same.refl F) ⟨I, .bl _⟩ hk2⟩
/-- sum of ints, a list or a tuple -/
def rSum2 (K : PySem.W.Frag) : List V → Hp → VK → Prop := fun vs H Q => ∃ (a : Addr) (b : Bool) (ns : List Int), vs = [V.ref a] ∧ Seq K H b a (ns.map V.int) ∧ Q (.int ns.sum) H
theorem cr_sum2 (hc : X.calm = true) : CallR X (.builtin "sum") (rSum2 X.K) := by
  intro pins s σ H vs us Q I r h
  obtain ⟨a, b, ns, rfl, hs, q⟩ := h
  cases b with
  | true => exact cr_sum hc pins s σ H _ us Q I r ⟨a, ns, rfl, hs, q⟩
  | false =>
    obtain ⟨its, rv, hl, _⟩ := I.tuple hs
    rw [Vals.ref1 r]
    have hi := rv.ints
    obtain ⟨xs, e⟩ := hi.allInts.items
    have hn : numsOf (intItems xs).toList = ns := by rw [← e]; exact hi.numsOf
    rw [nums_intItems] at hn
    rw [e] at hl
    have hl : s.heap.IsTuple a (intItems xs) := by
      obtain ⟨o, h1, h2, n, h3⟩ := hl
      exact ⟨o, h1, h2, n, h3⟩
    have ha : a < s.heap.objs.size := by obtain ⟨_, e, _⟩ := hl; exact Heap.lt_size e
    refine PySem.call_sum_walkG (wpAny_pyIter_tuple hl ⟨_, _, _, _, _, _, numAt xs, rfl, Walks.tuple (A := X.A.in1) (I.ok.hd hc) _ a (Nat.ne_of_lt ha) (intItems xs), ⟨⟨_, Heap.get?_push_size _ rfl, rfl, rfl⟩, hl.push _⟩, fun b hb => ?_, (fun _ _ => intItems_at), fun h' tk t' hk => ?_⟩)
    · show b < (s.heap.push _).objs.size
      rw [Heap.size_push]
      rcases List.mem_cons.mp hb with rfl | hb
      · exact Nat.lt_succ_self _
      · rcases List.mem_cons.mp hb with rfl | hb
        · exact Nat.lt_succ_of_lt ha
        · cases hb
    · refine ⟨.int ns.sum, H, I.kept fun b o eo => hk b o (fun hmem => ?_) (Heap.get?_push_of_some _ eo), ⟨t', ?_⟩, q⟩
      · exact absurd (Heap.lt_size eo) ((List.mem_singleton.mp hmem) ▸ Nat.lt_irrefl _)
      · show Value.int (preSum (numAt xs) (intItems xs).size) t' = .int ns.sum t'
        rw [show (intItems xs).size = xs.size by simp [intItems], preSum_eq, List.take_of_length_le (by simp), hn]
def sSum : SC := fun _ ds k => got (intsD ds) fun ns => k (.dat (.int ns.sum))
theorem dc_sum {K : PySem.W.Frag} : DC K (rSum2 K) sSum := fun C F ρ σ H a vs b ds Q Kd hK I hs hs' ha hk q => by
  obtain ⟨ns, e, hk2⟩ := got_ok hk
  obtain ⟨rfl, rfl⟩ := intsD_ok e ha
  exact ⟨a, b, ns, rfl, hs, q F _ (.dat _) H (Same.refl F) ⟨I, .int _⟩ hk2⟩
/-- list(xs), tuple(xs) -/
def sList : SC := fun _ ds k => k (.own none (.lst ds))
theorem dc_list {K : PySem.W.Frag} : DC K (fun xs H Q => ∃ p ys, xs = [.ref p] ∧ (SqL K H p ys ∨ SqT K H p ys) ∧ ∀ l, H l = none → Q (.ref l) (upd H l (.lst ys))) sList := fun C F ρ σ H a vs b ds Q Kd hK I hs hs' ha hk q => by
  refine ⟨a, vs, rfl, ?_, fun l hl => ?_⟩
  · cases b with
    | true => exact .inl hs
    | false => exact .inr hs
  · subst hK
    exact q F _ (.own none (.lst ds)) _ (Same.refl F) (I.newOwn hl ha) hk
def sTuple : SC := fun _ ds k => k (.dat (.tuple ds))
theorem dc_tuple {K : PySem.W.Frag} : DC K (fun xs H Q => ∃ p ys, xs = [.ref p] ∧ ((SqL K H p ys ∧ ∀ l, H l = none → Q (.ref l) (upd H l (.tup ys))) ∨ (SqT K H p ys ∧ Q (.ref p) H))) sTuple := fun C F ρ σ H a vs b ds Q Kd hK I hs hs' ha hk q => by
  refine ⟨a, vs, rfl, ?_⟩
  subst hK
  cases b with
  | true =>
    refine .inl ⟨hs, fun l hl => ?_⟩
    have s2 : Same F (upd F l (.tup vs)) := same_upd' (I.fnone hl)
    exact q _ _ (.dat (.tuple ds)) _ s2 ⟨I.imm hl, dp_tup upd_same (dpa_mono s2 _ _ ha)⟩ hk
  | false => exact .inr ⟨hs, q F _ (.dat (.tuple ds)) H (Same.refl F) ⟨I, .tup (hs' rfl) ha⟩ hk⟩
end
end Ab

set_option maxHeartbeats 4000000
/-! Ab4: sorted, min, max, ==, in, <, arithmetic, subscripts, by data. -/
namespace Ab
open PySem PySem.Spec PyProof.Rows L2
open PySem.W (EachIs dataLe Sortable AllAlike)

theorem dpa_mem {K : PySem.W.Frag} {F : Hp} : ∀ {ds : List PyData} {vs : List V}, DpAll K F vs ds → ∀ p ∈ vs.zip ds, Dp K F p.1 p.2
  | [], _, h => by cases h; intro p hp; simp at hp
  | d :: ds, _, h => by
    cases h with
    | cons h1 h2 =>
      intro p hp
      rw [List.zip_cons_cons] at hp
      rcases List.mem_cons.mp hp with rfl | hp
      · exact h1
      · exact dpa_mem h2 p hp
theorem dpa_of_mem {K : PySem.W.Frag} {F : Hp} : ∀ {zs : List (V × PyData)}, (∀ p ∈ zs, Dp K F p.1 p.2) → DpAll K F (zs.map Prod.fst) (zs.map Prod.snd)
  | [], _ => .nil
  | z :: zs, h => .cons (h z List.mem_cons_self) (dpa_of_mem fun p hp => h p (List.mem_cons_of_mem _ hp))
theorem zip_snd : ∀ {vs : List V} {ds : List PyData}, vs.length = ds.length → (vs.zip ds).map Prod.snd = ds
  | [], [], _ => rfl
  | v :: vs, d :: ds, h => by rw [List.zip_cons_cons, List.map_cons, zip_snd (by simpa using h)]
theorem each_rel : ∀ {vs : List V} {its : List Value} {ds : List PyData}, Vals vs its → vs.length = ds.length → EachIs (fun v (b : V × PyData) => RelV b.1 v) its (vs.zip ds)
  | [], _, [], .nil, _ => .nil
  | [], _, _ :: _, _, h => by simp at h
  | _ :: _, _, [], _, h => by simp at h
  | v :: vs, _, d :: ds, .cons r t, h => .cons r (each_rel t (by simpa using h))
theorem each_read {h : Heap} : ∀ {vs : List V} {its : List Value} {ds : List PyData} {as : List Addr}, Vals vs its → ReadsAll h its ds as → EachIs (fun v (b : V × PyData) => ∃ as, Reads h v b.2 as) its (vs.zip ds)
  | [], _, [], _, .nil, .nil => .nil
  | [], _, _ :: _, _, r, q => by cases r; cases q
  | _ :: _, _, [], _, r, q => by cases q; cases r
  | v :: vs, _, d :: ds, _, .cons r t, .cons q u => .cons ⟨_, q⟩ (each_read t u)
theorem vals_each : ∀ {out : List Value} {zs : List (V × PyData)}, EachIs (fun v (b : V × PyData) => RelV b.1 v) out zs → Vals (zs.map Prod.fst) out
  | _, _, .nil => .nil
  | _, _, .cons r t => .cons r (vals_each t)

section
variable {X : Cx}
def rSortD (K : PySem.W.Frag) : List V → Hp → VK → Prop := fun vs H Q => ∃ (a : Addr) (xs : List V) (ds : List PyData), vs = [V.ref a] ∧ SqL K H a xs ∧ DpAll K H xs ds ∧ AllAlike ds ∧ Sortable ds ∧ (∀ d ∈ ds, d.depth ≤ 50) ∧
  ∀ p, H p = none → Q (.ref p) (upd H p (.lst (((xs.zip ds).mergeSort (dataLe false Prod.snd)).map Prod.fst)))
theorem cr_sortD (hu : X.A.units + 64 < cLine) : CallR X (.builtin "sorted") (rSortD X.K) := by
  intro pins s σ H vs us Q I r h
  obtain ⟨a, xs, ds, rfl, hs, hd, h1, h2, h3, q⟩ := h
  obtain ⟨its, rv, hl, hz⟩ := I.list hs
  rw [Vals.ref1 r]
  obtain ⟨as, hr⟩ := Dp.readsAll I ds xs its hd rv
  have hlen := dpa_len hd
  have hmap : (xs.zip ds).map Prod.snd = ds := zip_snd hlen
  have hzl : (xs.zip ds).length = xs.length := by rw [List.length_zip, ← hlen, Nat.min_self]
  refine PySem.W.sorted_data (R := fun v (b : V × PyData) => RelV b.1 v) (enc := Prod.snd) (bs := xs.zip ds) hl.isList (each_rel rv hlen) (each_read rv hr) (by rw [hmap]; exact h1) (by rw [hmap]; exact h2) (by rw [hzl]; exact hz) (fun b hb => ?_) fun out ho he => ?_
  · have : b.2 ∈ ds := by rw [← hmap]; exact List.mem_map.mpr ⟨b, hb, rfl⟩
    have := h3 _ this
    omega
  · obtain ⟨ep, he'⟩ := PyProof.Rows.sortedAll_at s.heap its out.toArray
    have hl2 : (((xs.zip ds).mergeSort (dataLe false Prod.snd)).map Prod.fst).length ≤ sizeLine := by
      rw [List.length_map, List.length_mergeSort, hzl]
      exact hz
    exact ⟨.ref _, upd H (s.heap.objs.size + 1) (.lst _), I.laid (t' := s.toks) (fun _ _ => PyProof.Rows.sortedAll_old) (Nat.le_succ _) ⟨hl2, out, ep, vals_each he, he'⟩, rfl, q _ (I.hok.fresh (Nat.le_succ _))⟩
def sSorted : SC := fun b ds k => b = true ∧ AllAlike ds ∧ Sortable ds ∧ (∀ d ∈ ds, d.depth ≤ 50) ∧ k (.own none (.lst (ds.mergeSort (dataLe false id))))
theorem sorted_pairs {K : PySem.W.Frag} {F : Hp} {vs : List V} {ds : List PyData} (h : DpAll K F vs ds) : DpAll K F (((vs.zip ds).mergeSort (dataLe false Prod.snd)).map Prod.fst) (ds.mergeSort (dataLe false id)) := by
  have e : ((vs.zip ds).mergeSort (dataLe false Prod.snd)).map Prod.snd = ds.mergeSort (dataLe false id) := by
    rw [PySem.W.sort_maps (r := dataLe false Prod.snd) (s := dataLe false id) Prod.snd (fun _ _ _ _ => rfl), zip_snd (dpa_len h)]
  rw [← e]
  exact dpa_of_mem fun p hp => dpa_mem h p (List.mem_mergeSort.mp hp)
theorem dc_sorted {K : PySem.W.Frag} : DC K (rSortD K) sSorted := fun C F ρ σ H a vs b ds Q Kd hK I hs hs' ha ⟨hb, h1, h2, h3, hk⟩ q => by
  subst hb
  subst hK
  exact ⟨a, vs, ds, rfl, hs, dpa_mono I.fz _ _ ha, h1, h2, h3, fun p hp => q F _ (.own none (.lst _)) _ (Same.refl F) (I.newOwn hp (sorted_pairs ha)) hk⟩

/-! min, max -/
def rMinD (K : PySem.W.Frag) (f : PyData → List PyData → PyData) : List V → Hp → VK → Prop := fun vs H Q => ∃ (a : Addr) (b : Bool) (xs : List V) (d : PyData) (ds : List PyData), vs = [V.ref a] ∧ Seq K H b a xs ∧ DpAll K H xs (d :: ds) ∧ PySem.W.AlikeAll (d :: ds) ∧ PyData.depthAll (d :: ds) ≤ 50 ∧
  ∀ (i : Nat) v, xs[i]? = some v → (d :: ds)[i]? = some (f d ds) → Q v H
theorem reads_elem {X : Cx} {pins : List (Addr × Obj)} {σ : St} {H : Hp} {s : Shared} {xs : List V} {its : List Value} {ds : List PyData} (I : Inv X pins σ H s) (hd : DpAll X.K H xs ds) (rv : Vals xs its) {i : Nat} {u : Value} {m : PyData} {bs : List Addr}
    (e : its[i]? = some u) (r : Reads s.heap u m bs) : ∃ v, xs[i]? = some v ∧ RelV v u ∧ ds[i]? = some m := by
  have hlt : i < xs.length := by
    rw [rv.length]
    exact (List.getElem?_eq_some_iff.mp e).1
  obtain ⟨u', e', r'⟩ := rv.get (List.getElem?_eq_getElem hlt)
  have : u' = u := Option.some.inj (e'.symm.trans e)
  subst this
  have hlt2 : i < ds.length := by
    rw [← dpa_len hd]
    exact hlt
  obtain ⟨v2, e2, hv2⟩ := dpa_get hd (List.getElem?_eq_getElem hlt2)
  have ev : v2 = xs[i] := by
    rw [List.getElem?_eq_getElem hlt] at e2
    exact (Option.some.inj e2).symm
  subst ev
  obtain ⟨cs, q⟩ := Dp.reads I _ _ _ hv2 r'
  have := PySem.SeqAt.plain_unique _ _ _ _ _ (dp_plain _ _ hv2) q r
  exact ⟨_, List.getElem?_eq_getElem hlt, r', by rw [List.getElem?_eq_getElem hlt2, this]⟩
theorem cr_minD (hc : X.calm = true) (hu : X.A.units + 64 < cLine) : CallR X (.builtin "min") (rMinD X.K PySem.W.minD) := by
  intro pins s σ H vs us Q I r h
  obtain ⟨a, b, xs, d, ds, rfl, hs, hd, h1, h2, q⟩ := h
  rw [Vals.ref1 r]
  obtain ⟨its, as, rv, hr, hl⟩ := seq_reads (F := H) I hs (Same.refl H) hd
  have fin : ∀ (i : Nat) (v : Value) (h' : Heap) (tk : Nat) (bs : List Addr), its.toArray[i]? = some v → Reads h' v (PySem.W.minD d ds) bs → (∀ b o, s.heap.get? b = some o → h'.get? b = some o) → EP X pins σ Q v { s with heap := h', toks := tk } := fun i v h' tk bs e rd hk => by
    have I2 : Inv X pins σ H { s with heap := h', toks := tk } := I.kept hk
    obtain ⟨z, e1, e2, e3⟩ := reads_elem I2 hd rv (by simpa using e) rd
    exact ⟨z, H, I2, e2, q i z e1 e3⟩
  cases b with
  | true =>
    rw [if_pos rfl] at hl
    exact PySem.W.min_list_data (I.ok.hd hc) hl (by simpa using hr) h1 (by omega) fun i v h' tk bs e rd hk => fin i v h' tk bs e rd hk
  | false =>
    rw [if_neg (by simp)] at hl
    exact PySem.W.min_tuple_data (I.ok.hd hc) hl (by simpa using hr) h1 (by omega) fun i v h' tk bs e rd hk => fin i v h' tk bs e rd hk
theorem cr_maxD (hc : X.calm = true) (hu : X.A.units + 64 < cLine) : CallR X (.builtin "max") (rMinD X.K PySem.W.maxD) := by
  intro pins s σ H vs us Q I r h
  obtain ⟨a, b, xs, d, ds, rfl, hs, hd, h1, h2, q⟩ := h
  rw [Vals.ref1 r]
  obtain ⟨its, as, rv, hr, hl⟩ := seq_reads (F := H) I hs (Same.refl H) hd
  have fin : ∀ (i : Nat) (v : Value) (h' : Heap) (tk : Nat) (bs : List Addr), its.toArray[i]? = some v → Reads h' v (PySem.W.maxD d ds) bs → (∀ b o, s.heap.get? b = some o → h'.get? b = some o) → EP X pins σ Q v { s with heap := h', toks := tk } := fun i v h' tk bs e rd hk => by
    have I2 : Inv X pins σ H { s with heap := h', toks := tk } := I.kept hk
    obtain ⟨z, e1, e2, e3⟩ := reads_elem I2 hd rv (by simpa using e) rd
    exact ⟨z, H, I2, e2, q i z e1 e3⟩
  cases b with
  | true =>
    rw [if_pos rfl] at hl
    exact PySem.W.max_list_data (I.ok.hd hc) hl (by simpa using hr) h1 (by omega) fun i v h' tk bs e rd hk => fin i v h' tk bs e rd hk
  | false =>
    rw [if_neg (by simp)] at hl
    exact PySem.W.max_tuple_data (I.ok.hd hc) hl (by simpa using hr) h1 (by omega) fun i v h' tk bs e rd hk => fin i v h' tk bs e rd hk
def sBest (f : PyData → List PyData → PyData) : SC := fun _ ds k => match ds with
  | [] => False
  | d :: ds => PySem.W.AlikeAll (d :: ds) ∧ PyData.depthAll (d :: ds) ≤ 50 ∧ k (.dat (f d ds))
theorem dc_best {K : PySem.W.Frag} {f : PyData → List PyData → PyData} : DC K (rMinD K f) (sBest f) := fun C F ρ σ H a vs b ds Q Kd hK I hs hs' ha hk q => by
  cases ds with
  | nil => exact hk.elim
  | cons d ds =>
    obtain ⟨h1, h2, h3⟩ := hk
    subst hK
    refine ⟨a, b, vs, d, ds, rfl, hs, dpa_mono I.fz _ _ ha, h1, h2, fun i v e1 e2 => ?_⟩
    obtain ⟨v', e3, e4⟩ := dpa_get ha e2
    have : v' = v := Option.some.inj (e3.symm.trans e1)
    subst this
    exact q F v' (.dat _) H (Same.refl F) ⟨I, e4⟩ h3

/-! ### == != in not in < by data -/
def rEqP (K : PySem.W.Frag) (neg : Bool) : R2 := fun x y H Q => ∃ d e, Dp K H x d ∧ Dp K H y e ∧ min d.depth e.depth ≤ 50 ∧ Q (.bl (if neg = true then !PyData.eqv d e else PyData.eqv d e)) H
theorem op_eqP (hu : X.A.units + 64 < cLine) : OpR X (compareOp .Eq) (rEqP X.K false) := by
  intro pins s σ H x y v u Q I rx ry h
  obtain ⟨d, e, hd, he, hm, q⟩ := h
  obtain ⟨as, r1⟩ := Dp.reads I d x v hd rx
  obtain ⟨bs, r2⟩ := Dp.reads I e y u he ry
  exact SeqAt.eq_plain r1 r2 (dp_plain _ _ hd) (dp_plain _ _ he) (by omega) ⟨.bl _, H, I, rfl, q⟩
theorem op_neP (hu : X.A.units + 64 < cLine) : OpR X (compareOp .NotEq) (rEqP X.K true) := by
  intro pins s σ H x y v u Q I rx ry h
  obtain ⟨d, e, hd, he, hm, q⟩ := h
  obtain ⟨as, r1⟩ := Dp.reads I d x v hd rx
  obtain ⟨bs, r2⟩ := Dp.reads I e y u he ry
  exact SeqAt.ne_plain r1 r2 (dp_plain _ _ hd) (dp_plain _ _ he) (by omega) ⟨.bl _, H, I, rfl, q⟩
def sEq : S2 := fun d e k => min d.depth e.depth ≤ 50 ∧ k (.bool (PyData.eqv d e))
def sNe : S2 := fun d e k => min d.depth e.depth ≤ 50 ∧ k (.bool (!PyData.eqv d e))
theorem dr_eq {K : PySem.W.Frag} : DR2 K (rEqP K false) sEq := fun C F ρ σ H x y dx dy Q Kd hK I hx hy ⟨h1, h2⟩ q => by
  subst hK
  exact ⟨dx, dy, dp_mono I.fz _ _ hx, dp_mono I.fz _ _ hy, h1, q F _ _ H (Same.refl F) I (.bl _) h2⟩
theorem dr_ne {K : PySem.W.Frag} : DR2 K (rEqP K true) sNe := fun C F ρ σ H x y dx dy Q Kd hK I hx hy ⟨h1, h2⟩ q => by
  subst hK
  exact ⟨dx, dy, dp_mono I.fz _ _ hx, dp_mono I.fz _ _ hy, h1, q F _ _ H (Same.refl F) I (.bl _) h2⟩
/-- x in c -/
def rInP (K : PySem.W.Frag) (neg : Bool) : R2 := fun x y H Q => ∃ d a b vs ds, Dp K H x d ∧ y = .ref a ∧ Seq K H b a vs ∧ DpAll K H vs ds ∧ min (PyData.depthAll ds) d.depth ≤ 50 ∧ Q (.bl (if neg = true then !(ds.any fun y => PyData.eqv y d) else ds.any fun y => PyData.eqv y d)) H
theorem op_inP (hu : X.A.units + 64 < cLine) : OpR X (compareOp .In) (rInP X.K false) := by
  intro pins s σ H x y v u Q I rx ry h
  obtain ⟨d, a, b, vs, ds, hd, rfl, hs, ha, hm, q⟩ := h
  cases ry
  obtain ⟨as, r1⟩ := Dp.reads I d x v hd rx
  obtain ⟨its, cs, rv, hr, hl⟩ := seq_reads (F := H) I hs (Same.refl H) ha
  cases b with
  | true =>
    rw [if_pos rfl] at hl
    obtain ⟨o, h1, h2, n, h3⟩ := hl
    exact SeqAt.in_list_data (Reads.list h1 h2 h3 (by simpa using hr)) r1 (dpa_plain _ _ ha) (dp_plain _ _ hd) (by omega) ⟨.bl _, H, I, rfl, q⟩
  | false =>
    rw [if_neg (by simp)] at hl
    obtain ⟨o, h1, h2, n, h3⟩ := hl
    exact SeqAt.in_tuple_data (Reads.tuple h1 h2 h3 (by simpa using hr)) r1 (dpa_plain _ _ ha) (dp_plain _ _ hd) (by omega) ⟨.bl _, H, I, rfl, q⟩
theorem op_notInP (hu : X.A.units + 64 < cLine) : OpR X (compareOp .NotIn) (rInP X.K true) := by
  intro pins s σ H x y v u Q I rx ry h
  obtain ⟨d, a, b, vs, ds, hd, rfl, hs, ha, hm, q⟩ := h
  cases ry
  obtain ⟨as, r1⟩ := Dp.reads I d x v hd rx
  obtain ⟨its, cs, rv, hr, hl⟩ := seq_reads (F := H) I hs (Same.refl H) ha
  cases b with
  | true =>
    rw [if_pos rfl] at hl
    obtain ⟨o, h1, h2, n, h3⟩ := hl
    exact SeqAt.notIn_list_data (Reads.list h1 h2 h3 (by simpa using hr)) r1 (dpa_plain _ _ ha) (dp_plain _ _ hd) (by omega) ⟨.bl _, H, I, rfl, q⟩
  | false =>
    rw [if_neg (by simp)] at hl
    obtain ⟨o, h1, h2, n, h3⟩ := hl
    exact SeqAt.notIn_tuple_data (Reads.tuple h1 h2 h3 (by simpa using hr)) r1 (dpa_plain _ _ ha) (dp_plain _ _ hd) (by omega) ⟨.bl _, H, I, rfl, q⟩
end

/-- an operator whose right side is what a value contains (in, not in) -/
abbrev SR := PyData → Bool → List PyData → (PyData → Prop) → Prop
def DRS (K : PySem.W.Frag) (r : R2) (s : SR) : Prop := ∀ (C : Fx) (F : Hp) (ρ : AS) (σ : St) (H : Hp) (x : V) (dx : PyData) (a : Addr) (b : Bool) (vs : List V) (ds : List PyData) (Q : VK) (Kd : PyData → Prop), C.K = K → SOk C F ρ σ H → Dp K F x dx → Seq K H b a vs → DpAll K F vs ds → s dx b ds Kd →
  (∀ F' z d H', Same F F' → SOk C F' ρ σ H' → Dp K F' z d → Kd d → Q z H') → r x (.ref a) H Q
def aBinR (s : SR) (Ta Tb : ATE) : ATE := fun ρ K => Ta ρ fun x ρ1 => dd x fun dx => Tb ρ1 fun y ρ2 => arg y fun z => cont ρ2 z fun b ds => s dx b ds fun d => K (.dat d) ρ2
theorem w_opR {K : PySem.W.Frag} {r : R2} {s : SR} {Ta Tb : ATE} (hs : DRS K r s) : ∀ σ H Q, cE K (aBinR s Ta Tb) σ H Q → tOp r (cE K Ta) (cE K Tb) σ H Q := fun σ H Q ⟨C, F, ρ, Kc, hK, I, h, q⟩ => by
  refine ⟨C, F, ρ, _, hK, I, h, fun F1 v x ρ1 H1 s1 r1 k1 => ?_⟩
  obtain ⟨F2, d, s2, I2, hd, k2⟩ := r1.data k1
  refine ⟨C, F2, ρ1, _, hK, I2, k2, fun F3 w y ρ2 H2 s3 r3 k3 => ?_⟩
  obtain ⟨F4, z, s4, I4, hz, k4⟩ := r3.arg k3
  obtain ⟨a, vs, b, ds, rfl, h3, _, h4, k5⟩ := hz.cont I4 k4
  subst hK
  exact hs C F4 ρ2 σ H2 v d a b vs ds Q _ rfl I4 (dp_mono (s3.trans s4) _ _ hd) h3 h4 k5 fun F5 z dz H5 s5 I5 hz kz => q F5 z (.dat dz) ρ2 H5 ((((s1.trans s2).trans s3).trans s4).trans s5) ⟨I5, hz⟩ kz
section
variable {X : Cx} {a b : Expr} {Ta Tb : ATE} {r : R2} {s : SR} {pos : Pos}
theorem e_cmpS {op : CmpOp} (ho : OpR X (compareOp op) r) (hs : DRS X.K r s) (ha : AE X a Ta) (hb : AE X b Tb) (hm : behindInMarks op b = false := by with_unfolding_all rfl) : AE X (.Compare a [op] [b] pos) (aBinR s Ta Tb) := pe_of (pe_cmpR ho ha hb hm) (w_opR hs)
theorem t_cmpS {op : CmpOp} (ho : OpR X (compareOp op) r) (hs : DRS X.K r s) (ha : AE X a Ta) (hb : AE X b Tb) (hm : behindInMarks op b = false := by with_unfolding_all rfl) : AT X (.Compare a [op] [b] pos) (aTst (aBinR s Ta Tb)) := pt_of (pt_cmpR ho ha hb hm) (w_tst (w_opR hs))
def sIn : SR := fun d _ ds k => min (PyData.depthAll ds) d.depth ≤ 50 ∧ k (.bool (ds.any fun y => PyData.eqv y d))
def sNotIn : SR := fun d _ ds k => min (PyData.depthAll ds) d.depth ≤ 50 ∧ k (.bool (!(ds.any fun y => PyData.eqv y d)))
theorem dr_in {K : PySem.W.Frag} : DRS K (rInP K false) sIn := fun C F ρ σ H x dx a b vs ds Q Kd hK I hx hs ha ⟨h1, h2⟩ q =>
  ⟨dx, a, b, vs, ds, dp_mono I.fz _ _ hx, rfl, hs, dpa_mono I.fz _ _ ha, h1, q F _ _ H (Same.refl F) I (.bl _) h2⟩
theorem dr_notIn {K : PySem.W.Frag} : DRS K (rInP K true) sNotIn := fun C F ρ σ H x dx a b vs ds Q Kd hK I hx hs ha ⟨h1, h2⟩ q =>
  ⟨dx, a, b, vs, ds, dp_mono I.fz _ _ hx, rfl, hs, dpa_mono I.fz _ _ ha, h1, q F _ _ H (Same.refl F) I (.bl _) h2⟩
end

/-! ### ints -/
/-- two ints -/
def ii (f : Int → Int → (PyData → Prop) → Prop) : S2
  | .int i, .int j, k => f i j k
  | _, _, _ => False
theorem ii_ok {K : PySem.W.Frag} {F : Hp} {x y : V} {dx dy : PyData} {f : Int → Int → (PyData → Prop) → Prop} {k : PyData → Prop} (hx : Dp K F x dx) (hy : Dp K F y dy) (h : ii f dx dy k) : ∃ i j, x = .int i ∧ y = .int j ∧ f i j k := by
  cases hx with
  | int i =>
    cases hy with
    | int j => exact ⟨i, j, rfl, rfl, h⟩
    | _ => exact h.elim
  | _ => exact h.elim
def fI (g : Int → Int → Int) : Int → Int → (PyData → Prop) → Prop := fun i j k => k (.int (g i j))
def fC (C : Int → Int → Prop) (g : Int → Int → Int) : Int → Int → (PyData → Prop) → Prop := fun i j k => C i j ∧ k (.int (g i j))
def fB (g : Int → Int → Bool) : Int → Int → (PyData → Prop) → Prop := fun i j k => k (.bool (g i j))
theorem dr_i {K : PySem.W.Frag} {g : Int → Int → Int} : DR2 K (rI0 fun i j => .int (g i j)) (ii (fI g)) := fun C F ρ σ H x y dx dy Q Kd hK I hx hy h q => by
  obtain ⟨i, j, rfl, rfl, h⟩ := ii_ok hx hy h
  exact ⟨i, j, rfl, rfl, q F _ _ H (Same.refl F) I (.int _) h⟩
theorem dr_c {K : PySem.W.Frag} {g : Int → Int → Int} {Cn : Int → Int → Prop} : DR2 K (rI Cn fun i j => .int (g i j)) (ii (fC Cn g)) := fun C F ρ σ H x y dx dy Q Kd hK I hx hy h q => by
  obtain ⟨i, j, rfl, rfl, h1, h⟩ := ii_ok hx hy h
  exact ⟨i, j, rfl, rfl, h1, q F _ _ H (Same.refl F) I (.int _) h⟩
theorem dr_b {K : PySem.W.Frag} {g : Int → Int → Bool} : DR2 K (rI0 fun i j => .bl (g i j)) (ii (fB g)) := fun C F ρ σ H x y dx dy Q Kd hK I hx hy h q => by
  obtain ⟨i, j, rfl, rfl, h⟩ := ii_ok hx hy h
  exact ⟨i, j, rfl, rfl, q F _ _ H (Same.refl F) I (.bl _) h⟩
/-- one int -/
def i1 (f : Int → (PyData → Prop) → Prop) : S1
  | .int i, k => f i k
  | _, _ => False
theorem i1_ok {K : PySem.W.Frag} {F : Hp} {x : V} {dx : PyData} {f : Int → (PyData → Prop) → Prop} {k : PyData → Prop} (hx : Dp K F x dx) (h : i1 f dx k) : ∃ i, x = .int i ∧ f i k := by
  cases hx with
  | int i => exact ⟨i, rfl, h⟩
  | _ => exact h.elim
theorem dr_neg {K : PySem.W.Frag} : DR1 K (rU fun i => .int (-i)) (i1 fun i k => k (.int (-i))) := fun C F ρ σ H x dx Q Kd hK I hx h q => by
  obtain ⟨i, rfl, h⟩ := i1_ok hx h
  exact ⟨i, rfl, q F _ _ H (Same.refl F) I (.int _) h⟩
theorem dr_abs {K : PySem.W.Frag} : DR1 K (fun x H Q => (fun xs H Q => ∃ i, xs = [V.int i] ∧ Q (.int (if i < 0 then -i else i)) H) [x] H Q) (i1 fun i k => k (.int (if i < 0 then -i else i))) := fun C F ρ σ H x dx Q Kd hK I hx h q => by
  obtain ⟨i, rfl, h⟩ := i1_ok hx h
  exact ⟨i, rfl, q F _ _ H (Same.refl F) I (.int _) h⟩
theorem dr_int {K : PySem.W.Frag} : DR1 K (fun x H Q => (fun xs H Q => (∃ i, xs = [V.int i] ∧ Q (.int i) H) ∨ ∃ k, xs = [V.bl k] ∧ Q (.int (if k then 1 else 0)) H) [x] H Q) (i1 fun i k => k (.int i)) := fun C F ρ σ H x dx Q Kd hK I hx h q => by
  obtain ⟨i, rfl, h⟩ := i1_ok hx h
  exact .inl ⟨i, rfl, q F _ _ H (Same.refl F) I (.int _) h⟩
/-- x is None, x is not None -/
def sIsN : S2 := fun d e k => e = .none ∧ k (.bool (match d with | .none => true | _ => false))
def sNotN : S2 := fun d e k => e = .none ∧ k (.bool (match d with | .none => false | _ => true))
theorem dr_isN {K : PySem.W.Frag} : DR2 K (fun x y H Q => y = .non ∧ Q (.bl (decide (x = .non))) H) sIsN := fun C F ρ σ H x y dx dy Q Kd hK I hx hy ⟨e, h⟩ q => by
  subst e
  cases hy
  refine ⟨rfl, ?_⟩
  cases hx <;> exact q F _ _ H (Same.refl F) I (.bl _) h
theorem dr_notN {K : PySem.W.Frag} : DR2 K (fun x y H Q => y = .non ∧ Q (.bl (!decide (x = .non))) H) sNotN := fun C F ρ σ H x y dx dy Q Kd hK I hx hy ⟨e, h⟩ q => by
  subst e
  cases hy
  refine ⟨rfl, ?_⟩
  cases hx <;> exact q F _ _ H (Same.refl F) I (.bl _) h
end Ab

set_option maxHeartbeats 4000000
/-! Ab5: subscripts, changes of owned lists, statements. -/
namespace Ab
open PySem PySem.Spec PyProof.Rows L2

theorem atI_dp {K : PySem.W.Frag} {F : Hp} {vs : List V} {ds : List PyData} {i : Int} {d : PyData} (h : DpAll K F vs ds) (e : atI ds i = some d) : ∃ v, atI vs i = some v ∧ Dp K F v d := by
  unfold atI at e ⊢
  rw [dpa_len h]
  obtain ⟨j, e1, e2⟩ := Option.bind_eq_some_iff.mp e
  obtain ⟨v, g1, g2⟩ := dpa_get h e2
  exact ⟨v, by rw [e1]; exact g1, g2⟩
/-- an int of data -/
def iD : PyData → (Int → Prop) → Prop
  | .int i, k => k i
  | _, _ => False
theorem iD_ok {K : PySem.W.Frag} {F : Hp} {x : V} {d : PyData} {k : Int → Prop} (hx : Dp K F x d) (h : iD d k) : ∃ i, x = .int i ∧ d = .int i ∧ k i := by
  cases hx with
  | int i => exact ⟨i, rfl, rfl, h⟩
  | _ => exact h.elim
def aIx (Ta Tb : ATE) : ATE := fun ρ K => Ta ρ fun x ρ1 => arg x fun y => Tb ρ1 fun z ρ2 => dd z fun dz => iD dz fun i => cont ρ2 y fun _ ds => got (atI ds i) fun d => K (.dat d) ρ2
section
variable {X : Cx} {a b e : Expr} {Ta Tb Te : ATE} {pos : Pos}
theorem e_ix (ha : AE X a Ta) (hb : AE X b Tb) (hs : PlainIx b := by exact fun _ _ => rfl) : AE X (.Subscript a b pos) (aIx Ta Tb) := pe_of (pe_ix ix_seq ha hb hs) fun σ H Q ⟨C, F, ρ, Kc, hK, I, h, q⟩ => by
  refine ⟨C, F, ρ, _, hK, I, h, fun F1 v x ρ1 H1 s1 r1 k1 => ?_⟩
  obtain ⟨F2, y, s2, I2, hy, k2⟩ := r1.arg k1
  refine ⟨C, F2, ρ1, _, hK, I2, k2, fun F3 w z ρ2 H2 s3 r3 k3 => ?_⟩
  obtain ⟨F4, dz, s4, I4, hz, k4⟩ := r3.data k3
  obtain ⟨i, rfl, rfl, k5⟩ := iD_ok hz k4
  obtain ⟨p, vs, bb, ds, rfl, h3, _, h4, k6⟩ := (hy.mono (s3.trans s4)).cont I4 k5
  obtain ⟨d, e1, k7⟩ := got_ok k6
  obtain ⟨u, e2, hu⟩ := atI_dp h4 e1
  have fin : Q u H2 := q F4 u (.dat d) ρ2 H2 (((s1.trans s2).trans s3).trans s4) ⟨I4, hu⟩ k7
  rw [hK] at h3
  cases bb with
  | true => exact .inl ⟨p, vs, i, u, rfl, rfl, h3, e2, fin⟩
  | false => exact .inr (.inl ⟨p, vs, i, u, rfl, rfl, h3, e2, fin⟩)
/-- the owned list of a slot -/
def ownL : Option (Option AV) → (Option Nat → List PyData → Prop) → Prop
  | some (some (.own t (.lst ds))), k => k t ds
  | _, _ => False
theorem ownL_ok {o : Option (Option AV)} {k : Option Nat → List PyData → Prop} (h : ownL o k) : ∃ t ds, o = some (some (.own t (.lst ds))) ∧ k t ds := by
  unfold ownL at h
  split at h
  · exact ⟨_, _, rfl, h⟩
  · exact h.elim
/-- xs.append(e), xs the owned list of slot i -/
def aApp (i : Nat) (Te : ATE) : ATS := fun A ρ => ownL ρ[i]? fun _ _ => Te ρ fun x ρ1 => dd x fun d => ownL ρ1[i]? fun t ds => ds.length < sizeLine ∧ A.nx (ρ1.set i (some (.own t (.lst (ds ++ [d])))))
theorem pe_append {i : Nat} {o : Expr} {te : TE} {apos cpos : Pos} (ho : PE X o (tVar i)) (he : PE X e te)
    (hbase : attributeBase o "append" X.env (eval o X.env) = eval o X.env := by rfl)
    (hfew : ((backTo cpos (starEach (e :: []) X.env)).all (fun x => !x.1) && (backToKw cpos (keywordEach [] X.env)).all (fun x => x.1.isSome)
      && decide ((e :: ([] : List Expr)).length + ([] : List Keyword).length + (if ([] : List Keyword).isEmpty then 0 else 1) < 30)) = true := by rfl)
    (hline : (apos.endLine == cpos.line) = true := by rfl) (hst : starEach (e :: []) X.env = (false, eval e X.env) :: starEach [] X.env := by rfl) :
    PE X (.Call (.Attribute o "append" apos) (e :: []) [] cpos) (tBM X.K "list" rAppend (tVar i) (tCons te tNil)) :=
  pe_bm PySem.F.plainAttrs_list PySem.F.slot_list_append PySem.F.type_list_append mt_append ho (pa_cons he pa_nil hst) hbase hfew hline hst rfl
theorem pe_extend {i : Nat} {o : Expr} {te : TE} {apos cpos : Pos} (ho : PE X o (tVar i)) (he : PE X e te)
    (hbase : attributeBase o "extend" X.env (eval o X.env) = eval o X.env := by rfl)
    (hfew : ((backTo cpos (starEach (e :: []) X.env)).all (fun x => !x.1) && (backToKw cpos (keywordEach [] X.env)).all (fun x => x.1.isSome)
      && decide ((e :: ([] : List Expr)).length + ([] : List Keyword).length + (if ([] : List Keyword).isEmpty then 0 else 1) < 30)) = true := by rfl)
    (hline : (apos.endLine == cpos.line) = true := by rfl) (hst : starEach (e :: []) X.env = (false, eval e X.env) :: starEach [] X.env := by rfl) :
    PE X (.Call (.Attribute o "extend" apos) (e :: []) [] cpos) (tBM X.K "list" rExtend (tVar i) (tCons te tNil)) :=
  pe_bm PySem.F.plainAttrs_list PySem.F.slot_list_extend PySem.F.type_list_extend mt_extend ho (pa_cons he pa_nil hst) hbase hfew hline hst rfl
theorem s_app {i : Nat} {call : Expr} (h : PE X call (tBM X.K "list" rAppend (tVar i) (tCons (cE X.K Te) tNil))) (hs : swapsWith call none pos.line X.env = pure false := by rfl) : AStm X (.Expr call pos) (aApp i Te) := ps_of (ps_expr h hs) fun D σ H ⟨C, F, ρ, A, hK, I, h, q1, q2, q3, q4⟩ => by
  obtain ⟨t, ds, ho, h⟩ := ownL_ok h
  obtain ⟨p, vs, e1, e2, e3⟩ := I.at_own ho
  refine ⟨.ref p, e1, .inl ⟨rfl, vs, .inl (.inl e2)⟩, C, F, ρ, _, hK, I, h, fun F1 v x ρ1 H1 s1 r1 k1 => ?_⟩
  obtain ⟨F2, d, s2, I2, hd, k2⟩ := r1.data k1
  obtain ⟨t, ds, ho, hz, k3⟩ := ownL_ok k2
  obtain ⟨p', vs, f1, f2, f3⟩ := I2.at_own ho
  have : p' = p := by rw [e1] at f1; simpa using f1.symm
  subst this
  refine ⟨p', vs, v, rfl, rfl, f2, by rw [dpa_len f3]; exact hz, ?_⟩
  exact q1 F2 _ _ _ (s1.trans s2) (I2.mut ho f1 (dpa_app f3 (.cons hd .nil))) k3
/-- xs.extend(e), e a new list -/
def aExt (i : Nat) (Te : ATE) : ATS := fun A ρ => ownL ρ[i]? fun _ _ => Te ρ fun x ρ1 => ownL (some (some x)) fun _ es => ownL ρ1[i]? fun t ds => ds.length + es.length ≤ sizeLine ∧ A.nx (ρ1.set i (some (.own t (.lst (ds ++ es)))))
theorem s_ext {i : Nat} {call : Expr} (h : PE X call (tBM X.K "list" rExtend (tVar i) (tCons (cE X.K Te) tNil))) (hs : swapsWith call none pos.line X.env = pure false := by rfl) : AStm X (.Expr call pos) (aExt i Te) := ps_of (ps_expr h hs) fun D σ H ⟨C, F, ρ, A, hK, I, h, q1, q2, q3, q4⟩ => by
  obtain ⟨t, ds, ho, h⟩ := ownL_ok h
  obtain ⟨p, vs, e1, e2, e3⟩ := I.at_own ho
  refine ⟨.ref p, e1, .inl ⟨rfl, vs, .inl (.inl e2)⟩, C, F, ρ, _, hK, I, h, fun F1 v x ρ1 H1 s1 r1 k1 => ?_⟩
  obtain ⟨t', es, hx, k2⟩ := ownL_ok k1
  have hx : x = .own t' (.lst es) := by simpa using hx
  subst hx
  obtain ⟨t, ds, ho, hz, k3⟩ := ownL_ok k2
  have J : SOk C F1 (some (.own t' (.lst es)) :: ρ1) (some v :: σ) H1 := r1
  obtain ⟨pe, ws, g1, g2, g3⟩ := J.at_own (i := 0) rfl
  have hv : v = .ref pe := by simpa using g1
  subst hv
  obtain ⟨p', vs, f1, f2, f3⟩ := J.tail.at_own ho
  have : p' = p := by rw [e1] at f1; simpa using f1.symm
  subst this
  refine ⟨p', pe, vs, ws, rfl, rfl, f2, g2, by rw [dpa_len f3, dpa_len g3]; exact hz, ?_⟩
  exact q1 F1 _ _ _ s1 (J.tail.mut ho f1 (dpa_app f3 g3)) k3
/-- xs[k] = e, xs the owned list of slot i -/
def aSetIx (i : Nat) (Ti Te : ATE) : ATS := fun A ρ => Te ρ fun x ρ1 => dd x fun d => ownL ρ1[i]? fun _ _ => Ti ρ1 fun z ρ2 => dd z fun dz => iD dz fun k => ownL ρ2[i]? fun t ds => got (ixN ds.length k) fun j => A.nx (ρ2.set i (some (.own t (.lst (ds.set j d)))))
theorem s_setIx {i : Nat} {o ix : Expr} {Ti : ATE} {tpos : Pos} (ho : PE X o (tVar i)) (hi : AE X ix Ti) (he : AE X e Te) (hg : PG X (.Subscript o ix tpos) (gSub (tVar i) (cE X.K Ti) rSetL))
    (hs : swapsWithSole [.Subscript o ix tpos] e pos.line X.env = pure false := by rfl) (hw : swappedStores [.Subscript o ix tpos] e X.env = pure none := by rfl) : AStm X (.Assign [.Subscript o ix tpos] e pos) (aSetIx i Ti Te) := ps_of (ps_asg he hg hs hw) fun D σ H ⟨C, F, ρ, A, hK, I, h, q1, q2, q3, q4⟩ => by
  refine ⟨C, F, ρ, _, hK, I, h, fun F1 v x ρ1 H1 s1 r1 k1 => ?_⟩
  obtain ⟨F2, d, s2, I2, hd, k2⟩ := r1.data k1
  obtain ⟨t, ds, ho, k2⟩ := ownL_ok k2
  obtain ⟨p, vs, e1, e2, e3⟩ := I2.at_own ho
  refine ⟨.ref p, e1, C, F2, ρ1, _, hK, I2, k2, fun F3 w z ρ2 H2 s3 r3 k3 => ?_⟩
  obtain ⟨F4, dz, s4, I4, hz, k4⟩ := r3.data k3
  obtain ⟨k, rfl, rfl, k5⟩ := iD_ok hz k4
  obtain ⟨t, ds, ho, k6⟩ := ownL_ok k5
  obtain ⟨j, ej, k7⟩ := got_ok k6
  obtain ⟨p', vs, f1, f2, f3⟩ := I4.at_own ho
  have : p' = p := by rw [e1] at f1; simpa using f1.symm
  subst this
  refine ⟨p', vs, k, j, rfl, rfl, f2, by rw [dpa_len f3]; exact ej, ?_⟩
  exact q1 F4 _ _ _ (((s1.trans s2).trans s3).trans s4) (I4.mut ho f1 (dpa_set (dp_mono (s3.trans s4) _ _ hd) f3 j)) k7

/-! ### statements -/
def aSeq (T U : ATS) : ATS := fun A ρ => T { A with nx := U A } ρ
def aNx : ATS := fun A ρ => A.nx ρ
theorem ss_nil : ASs X [] aNx := pss_of pss_nil fun D σ H ⟨C, F, ρ, A, hK, I, h, q1, _⟩ => q1 F ρ σ H (Same.refl F) I h
theorem ss_one {st : Stmt} {T : ATS} (h : AStm X st T) : ASs X [st] T := pss_one h
theorem ss_cons {st : Stmt} {rest : List Stmt} {T U : ATS} (h1 : AStm X st T) (h2 : ASs X rest U) : ASs X (st :: rest) (aSeq T U) := pss_of (pss_cons h1 h2) fun D σ H ⟨C, F, ρ, A, hK, I, h, q1, q2, q3, q4⟩ => by
  refine ⟨C, F, ρ, { A with nx := U A }, hK, I, h, fun F1 ρ1 σ1 H1 s1 I1 k1 => ?_, q2, q3, q4⟩
  exact ⟨C, F1, ρ1, A, hK, I1, k1, fun F2 ρ2 σ2 H2 s2 => q1 F2 ρ2 σ2 H2 (s1.trans s2), fun F2 ρ2 σ2 H2 v x s2 => q2 F2 ρ2 σ2 H2 v x (s1.trans s2), fun F2 ρ2 σ2 H2 s2 => q3 F2 ρ2 σ2 H2 (s1.trans s2), fun F2 ρ2 σ2 H2 s2 => q4 F2 ρ2 σ2 H2 (s1.trans s2)⟩
def aRet (T : ATE) : ATS := fun A ρ => T ρ fun x ρ' => A.rt x ρ'
theorem s_ret (h : AE X e Te) : AStm X (.Return (some e) pos) (aRet Te) := ps_of (ps_ret h) fun D σ H ⟨C, F, ρ, A, hK, I, h, q1, q2, q3, q4⟩ => ⟨C, F, ρ, _, hK, I, h, fun F1 v x ρ1 H1 s1 r1 k1 => q2 F1 ρ1 σ H1 v x s1 r1 k1⟩
def aIf (U : ATT) (T T' : ATS) : ATS := fun A ρ => U ρ fun b ρ' => br b (T A ρ') (T' A ρ')
theorem s_if {c : Expr} {p q : List Stmt} {U : ATT} {T T' : ATS} (hc : AT X c U) (hp : ASs X p T) (hq : ASs X q T') : AStm X (.If c p q pos) (aIf U T T') := ps_of (ps_if hc hp hq) fun D σ H ⟨C, F, ρ, A, hK, I, h, q1, q2, q3, q4⟩ => by
  refine ⟨C, F, ρ, _, hK, I, h, fun F1 b ρ1 H1 s1 I1 k1 => ?_⟩
  have go : ∀ {T : ATS}, T A ρ1 → cS X.K T D σ H1 := fun {T} k => ⟨C, F1, ρ1, A, hK, I1, k, fun F2 ρ2 σ2 H2 s2 => q1 F2 ρ2 σ2 H2 (s1.trans s2), fun F2 ρ2 σ2 H2 v x s2 => q2 F2 ρ2 σ2 H2 v x (s1.trans s2), fun F2 ρ2 σ2 H2 s2 => q3 F2 ρ2 σ2 H2 (s1.trans s2), fun F2 ρ2 σ2 H2 s2 => q4 F2 ρ2 σ2 H2 (s1.trans s2)⟩
  cases b with
  | true => exact iteT (go (k1.1 rfl))
  | false => exact iteF (go (k1.2 rfl))
def aNever : ATS := fun _ _ => False
theorem s_never {st : Stmt} : AStm X st aNever := ps_of ps_never fun D σ H ⟨C, F, ρ, A, hK, I, h, _⟩ => h
theorem ss_never {sts : List Stmt} : ASs X sts aNever := pss_of pss_never fun D σ H ⟨C, F, ρ, A, hK, I, h, _⟩ => h
/-- x = e: data, or a new owned list -/
def stor (i : Nat) : AV → AS → (AS → Prop) → Prop
  | .ali _, _, _ => False
  | x, ρ, k => k (ρ.set i (some x))
theorem Res.stor {C : Fx} {F : Hp} {ρ : AS} {σ : St} {H : Hp} {v : V} {x : AV} {i : Nat} {k : AS → Prop} (h : Res C F ρ σ H v x) (hk : stor i x ρ k) : ∃ ρ', SOk C F ρ' (σ.set i (some v)) H ∧ k ρ' := by
  cases x with
  | dat d => exact ⟨_, h.1.set_dat h.2 i, hk⟩
  | own t o => exact ⟨_, SOk.set_own h i, hk⟩
  | ali j => exact hk.elim
def aSet (i : Nat) (T : ATE) : ATS := fun A ρ => T ρ fun x ρ' => stor i x ρ' A.nx
theorem w_set {K : PySem.W.Frag} {i : Nat} : ∀ D σ H, cS K (aSet i Te) D σ H → tAsg (cE K Te) (gName i) D σ H := fun D σ H ⟨C, F, ρ, A, hK, I, h, q1, q2, q3, q4⟩ => by
  refine ⟨C, F, ρ, _, hK, I, h, fun F1 v x ρ1 H1 s1 r1 k1 => ?_⟩
  obtain ⟨ρ', I2, k2⟩ := r1.stor k1
  exact q1 F1 ρ' _ H1 s1 I2 k2
theorem s_set {i : Nat} {st : Stmt} (h : PS X st (tAsg (cE X.K Te) (gName i))) : AStm X st (aSet i Te) := ps_of h w_set
/-- x += e, an int -/
def aAug (i : Nat) (f : Int → Int → Int) (T : ATE) : ATS := fun A ρ => aName i ρ fun x _ => dd x fun dx => iD dx fun m => T ρ fun y ρ' => dd y fun dy => iD dy fun n => A.nx (ρ'.set i (some (.dat (.int (f m n)))))
theorem s_aug {i : Nat} {st : Stmt} {f : Int → Int → Int} (h : PS X st (tAug i (cE X.K Te) (ipI f))) : AStm X st (aAug i f Te) := ps_of h fun D σ H ⟨C, F, ρ, A, hK, I, h, q1, q2, q3, q4⟩ => by
  unfold aAug aName at h
  split at h
  · rename_i d hd
    obtain ⟨v, e1, e2⟩ := I.dat i d hd
    obtain ⟨m, rfl, rfl, h⟩ := iD_ok e2 h
    refine ⟨_, e1, C, F, ρ, _, hK, I, h, fun F1 w x ρ1 H1 s1 r1 k1 => ?_⟩
    obtain ⟨F2, d, s2, I2, hd, k2⟩ := r1.data k1
    obtain ⟨n, rfl, rfl, k3⟩ := iD_ok hd k2
    exact ⟨m, n, rfl, rfl, q1 F2 _ _ _ (s1.trans s2) (I2.set_dat (.int _) i) k3⟩
  · exact h.elim
  · exact h.elim
/-- a statement that is an expression -/
def aDrop (T : ATE) : ATS := fun A ρ => T ρ fun _ ρ' => A.nx ρ'
theorem s_expr (h : AE X e Te) (hs : swapsWith e none pos.line X.env = pure false := by rfl) : AStm X (.Expr e pos) (aDrop Te) := ps_of (ps_expr h hs) fun D σ H ⟨C, F, ρ, A, hK, I, h, q1, q2, q3, q4⟩ =>
  ⟨C, F, ρ, _, hK, I, h, fun F1 v x ρ1 H1 s1 r1 k1 => q1 F1 ρ1 σ H1 s1 r1.ok k1⟩
end

/-! ### targets -/
abbrev ATG := PyData → AS → (AS → Prop) → Prop
abbrev ATGs := List PyData → AS → (AS → Prop) → Prop
/-- a target's reading; is: the slots that it sets -/
def cG (K : PySem.W.Frag) (is : List Nat) (T : ATG) : TG := fun v σ H Q => ∃ (C : Fx) (F : Hp) (ρ : AS) (d : PyData) (Kc : AS → Prop), C.K = K ∧ SOk C F ρ σ H ∧ Dp C.K F v d ∧ T d ρ Kc ∧ ∀ ρ' σ', SOk C F ρ' σ' H → σ'.length = σ.length → (∀ j : Nat, j ∉ is → σ'[j]? = σ[j]?) → Kc ρ' → Q σ' H
def cGs (K : PySem.W.Frag) (is : List Nat) (T : ATGs) : TGs := fun vs σ H Q => ∃ (C : Fx) (F : Hp) (ρ : AS) (ds : List PyData) (Kc : AS → Prop), C.K = K ∧ SOk C F ρ σ H ∧ DpAll C.K F vs ds ∧ T ds ρ Kc ∧ ∀ ρ' σ', SOk C F ρ' σ' H → σ'.length = σ.length → (∀ j : Nat, j ∉ is → σ'[j]? = σ[j]?) → Kc ρ' → Q σ' H
section
variable {X : Cx} {e : Expr} {es : List Expr} {pos : Pos}
theorem pg_of {t t' : TG} (h : PG X e t) (w : ∀ v σ H Q, t' v σ H Q → t v σ H Q) : PG X e t' := ⟨fun pins s σ H v u Q I r q => h.run pins s σ H v u Q I r (w v σ H Q q)⟩
theorem pgs_of {t t' : TGs} (h : PGs X es t) (w : ∀ v σ H Q, t' v σ H Q → t v σ H Q) : PGs X es t' := ⟨fun pins s σ H v u Q I r q => h.run pins s σ H v u Q I r (w v σ H Q q)⟩
def AG (X : Cx) (e : Expr) (is : List Nat) (T : ATG) : Prop := PG X e (cG X.K is T)
def AGs (X : Cx) (es : List Expr) (is : List Nat) (T : ATGs) : Prop := PGs X es (cGs X.K is T)
def gN (i : Nat) : ATG := fun d ρ k => k (ρ.set i (some (.dat d)))
theorem g_name {i : Nat} (h : PG X e (gName i)) : AG X e [i] (gN i) := pg_of h fun v σ H Q ⟨C, F, ρ, d, Kc, hK, I, hd, h, q⟩ =>
  q _ _ (I.set_dat hd i) (by simp) (fun j hj => List.getElem?_set_ne (by simpa using fun z => hj (by simp [z]))) h
def gZ : ATGs := fun ds ρ k => match ds with
  | [] => k ρ
  | _ => False
def gC (T : ATG) (U : ATGs) : ATGs := fun ds ρ k => match ds with
  | d :: r => T d ρ fun ρ' => U r ρ' k
  | [] => False
def gT (n : Nat) (U : ATGs) : ATG := fun d ρ k => match d with
  | .tuple ds => ds.length = n ∧ U ds ρ k
  | _ => False
theorem gs_nil : AGs X [] [] gZ := pgs_of pgs_nil fun vs σ H Q ⟨C, F, ρ, ds, Kc, hK, I, hd, h, q⟩ => by
  cases hd with
  | nil => exact ⟨rfl, q ρ σ I rfl (fun _ _ => rfl) h⟩
  | cons _ _ => exact h.elim
theorem gs_cons {is js : List Nat} {T : ATG} {U : ATGs} (h1 : AG X e is T) (h2 : AGs X es js U) (hs : (assignEach (e :: es) X.env).map (·.2) = assign e X.env :: (assignEach es X.env).map (·.2) := by rfl) : AGs X (e :: es) (is ++ js) (gC T U) := pgs_of (pgs_cons h1 h2 hs) fun vs σ H Q ⟨C, F, ρ, ds, Kc, hK, I, hd, h, q⟩ => by
  cases hd with
  | nil => exact h.elim
  | cons d1 d2 =>
    refine ⟨_, _, rfl, C, F, ρ, _, _, hK, I, d1, h, fun ρ1 σ1 I1 l1 f1 k1 => ?_⟩
    exact ⟨C, F, ρ1, _, Kc, hK, I1, d2, k1, fun ρ2 σ2 I2 l2 f2 k2 => q ρ2 σ2 I2 (l2.trans l1) (fun j hj => (f2 j fun z => hj (List.mem_append_right _ z)).trans (f1 j fun z => hj (List.mem_append_left _ z))) k2⟩
theorem g_tup {is : List Nat} {U : ATGs} {k : Nat} {n : Nat} (h : PG X (.Tuple es k pos) (gTup X.K n (cGs X.K is U))) : AG X (.Tuple es k pos) is (gT n U) := pg_of h fun v σ H Q ⟨C, F, ρ, d, Kc, hK, I, hd, h, q⟩ => by
  cases hd with
  | tup hs ha =>
    obtain ⟨hn, h⟩ : _ ∧ U _ ρ Kc := h
    exact ⟨_, _, rfl, hK ▸ same_t I.fz hs, by rw [dpa_len ha]; exact hn, C, F, ρ, _, Kc, hK, I, ha, h, q⟩
  | _ => exact h.elim
/-- a, b = e -/
def aUnp (T : ATE) (G : ATG) : ATS := fun A ρ => T ρ fun x ρ' => dd x fun d => G d ρ' A.nx
theorem s_unp {tg : Expr} {is : List Nat} {G : ATG} {Te : ATE} (he : AE X e Te) (hg : AG X tg is G) (h : PS X (.Assign [tg] e pos) (tAsg (cE X.K Te) (cG X.K is G))) : AStm X (.Assign [tg] e pos) (aUnp Te G) := ps_of h fun D σ H ⟨C, F, ρ, A, hK, I, h, q1, q2, q3, q4⟩ => by
  refine ⟨C, F, ρ, _, hK, I, h, fun F1 v x ρ1 H1 s1 r1 k1 => ?_⟩
  obtain ⟨F2, d, s2, I2, hd, k2⟩ := r1.data k1
  exact ⟨C, F2, ρ1, d, _, hK, I2, hd, k2, fun ρ' σ' I3 _ _ k3 => q1 F2 ρ' σ' H1 (s1.trans s2) I3 k3⟩
end
end Ab

set_option maxHeartbeats 4000000
/-! Ab6: what is walked; for; list comprehensions. -/
namespace Ab
open PySem PySem.Spec PyProof.Rows L2

/-- a walk: its items, the slots that it leans on, what must stay true of the state -/
structure IS where
  ds : List PyData
  need : List Nat
  ok : AS → Prop
abbrev ATI := AS → (IS → AS → Prop) → Prop
structure ItOk (K : PySem.W.Frag) (J : It) (F0 : Hp) (ag : St → Prop) (S : IS) : Prop where
  go : ∀ (i : Nat) (C : Fx) (F : Hp) (ρ : AS) (σ : St) (H : Hp), C.K = K → Same F0 F → SOk C F ρ σ H → ag σ → S.ok ρ → i < S.ds.length → J.go i H
  stop : ∀ (i : Nat) (C : Fx) (F : Hp) (ρ : AS) (σ : St) (H : Hp), C.K = K → Same F0 F → SOk C F ρ σ H → ag σ → S.ok ρ → i = S.ds.length → J.stop i H
  yld : ∀ (i : Nat) (C : Fx) (F : Hp) (ρ : AS) (σ : St) (H : Hp) (x : V) (H2 : Hp), C.K = K → Same F0 F → SOk C F ρ σ H → ag σ → S.ok ρ → i < S.ds.length → J.yld i H x H2 → ∃ F2 d, Same F F2 ∧ SOk C F2 ρ σ H2 ∧ S.ds[i]? = some d ∧ Dp C.K F2 x d ∧ S.ok ρ
def cI (K : PySem.W.Frag) (T : ATI) : TI := fun σ H R => ∃ (C : Fx) (F : Hp) (ρ : AS) (Kc : IS → AS → Prop), C.K = K ∧ SOk C F ρ σ H ∧ T ρ Kc ∧
  ∀ F' ρ' H' J S ag, Same F F' → SOk C F' ρ' σ H' → ItOk K J F' ag S → (∀ σ' : St, (∀ i ∈ S.need, σ'[i]? = σ[i]?) → ag σ') → Kc S ρ' → R J H'
def AI (X : Cx) (tg iter : Expr) (T : ATI) : Prop := PI X tg iter (cI X.K T)
section
variable {X : Cx} {tg e : Expr} {Te : ATE}
theorem pi_of {wi wi' : TI} (h : PI X tg e wi) (w : ∀ σ H R, wi' σ H R → wi σ H R) : PI X tg e wi' := ⟨fun pins s σ H R I q => h.run pins s σ H R I (w σ H R q)⟩
/-- a list or a tuple -/
theorem pi_seq {tl : TE} (hl : PE X e tl) : PI X tg e (fun σ H R => tl σ H fun x H1 => ∃ a, x = .ref a ∧ (((∃ xs, SqL X.K H1 a xs) ∧ R (Itl X.K a) H1) ∨ ((∃ xs, SqT X.K H1 a xs) ∧ R (Itt X.K a) H1))) := by
  refine ⟨fun pins s σ H R I h => ?_⟩
  refine thn (hl.run pins s σ H _ I h) fun v s1 ⟨x, H1, I1, r1, q1⟩ => ?_
  obtain ⟨a, rfl, q⟩ := q1
  cases r1
  rcases q with ⟨⟨xs, hq⟩, q⟩ | ⟨⟨xs, hq⟩, q⟩
  · obtain ⟨its, rv, p, hz⟩ := I1.list hq
    refine wpAny_pyIter_list p.isList ?_
    refine ⟨s1.heap.objs.size, [s1.heap.objs.size], _, _, H1, rfl, I1.kept (t' := s1.toks) fun b o e => Heap.get?_push_of_some _ e, turn_list a _, ⟨_, Heap.get?_push_size _ rfl, rfl, rfl⟩, fun b hb => ?_, q⟩
    obtain rfl : b = s1.heap.objs.size := by simpa using hb
    exact I1.fpOk (Nat.le_refl _) (I1.hok.fresh (Nat.le_refl _))
  · obtain ⟨its, rv, p, hz⟩ := I1.tuple hq
    refine wpAny_pyIter_tuple (show s1.heap.IsTuple a its.toArray from p) ?_
    refine ⟨s1.heap.objs.size, [s1.heap.objs.size], _, _, H1, rfl, I1.kept (t' := s1.toks) fun b o e => Heap.get?_push_of_some _ e, turn_tuple a _, ⟨_, Heap.get?_push_size _ rfl, rfl, rfl⟩, fun b hb => ?_, q⟩
    obtain rfl : b = s1.heap.objs.size := by simpa using hb
    exact I1.fpOk (Nat.le_refl _) (I1.hok.fresh (Nat.le_refl _))
def srcOf (ρ : AS) : AV → (IS → Prop) → Prop
  | .dat (.list ds), k => k ⟨ds, [], fun _ => True⟩
  | .dat (.tuple ds), k => k ⟨ds, [], fun _ => True⟩
  | .ali i, k => ownL ρ[i]? fun _ ds => k ⟨ds, [i], fun ρ' => ownL ρ'[i]? fun _ es => es = ds⟩
  | _, _ => False
def aSeqI (Te : ATE) : ATI := fun ρ K => Te ρ fun x ρ1 => arg x fun y => srcOf ρ1 y fun S => K S ρ1
theorem itok_l {K : PySem.W.Frag} {F0 : Hp} {a : Addr} {vs : List V} {ds : List PyData} (h : SqL K F0 a vs) (ha : DpAll K F0 vs ds) : ItOk K (Itl K a) F0 (fun _ => True) ⟨ds, [], fun _ => True⟩ where
  go := fun i C F ρ σ H hK sF I _ _ hi => by
    have hi : i < ds.length := hi
    rw [← dpa_len ha] at hi
    exact ⟨vs, vs[i], (sF.trans I.fz).seq h, List.getElem?_eq_getElem hi⟩
  stop := fun i C F ρ σ H hK sF I _ _ hi => ⟨vs, (sF.trans I.fz).seq h, by rw [dpa_len ha]; exact Nat.le_of_eq hi.symm⟩
  yld := fun i C F ρ σ H x H2 hK sF I _ _ hi ⟨e, y⟩ => by
    subst e
    have y := y vs ((sF.trans I.fz).seq h)
    obtain ⟨v, e1, e2⟩ := dpa_get ha (List.getElem?_eq_getElem hi)
    have : v = x := Option.some.inj (e1.symm.trans y)
    subst this
    exact ⟨F, _, Same.refl F, I, List.getElem?_eq_getElem hi, hK ▸ dp_mono sF _ _ e2, trivial⟩
theorem itok_t {K : PySem.W.Frag} {F0 : Hp} {a : Addr} {vs : List V} {ds : List PyData} (h : SqT K F0 a vs) (ha : DpAll K F0 vs ds) : ItOk K (Itt K a) F0 (fun _ => True) ⟨ds, [], fun _ => True⟩ where
  go := fun i C F ρ σ H hK sF I _ _ hi => by
    have hi : i < ds.length := hi
    rw [← dpa_len ha] at hi
    exact ⟨vs, vs[i], same_t (sF.trans I.fz) h, List.getElem?_eq_getElem hi⟩
  stop := fun i C F ρ σ H hK sF I _ _ hi => ⟨vs, same_t (sF.trans I.fz) h, by rw [dpa_len ha]; exact Nat.le_of_eq hi.symm⟩
  yld := fun i C F ρ σ H x H2 hK sF I _ _ hi ⟨e, y⟩ => by
    subst e
    have y := y vs (same_t (sF.trans I.fz) h)
    obtain ⟨v, e1, e2⟩ := dpa_get ha (List.getElem?_eq_getElem hi)
    have : v = x := Option.some.inj (e1.symm.trans y)
    subst this
    exact ⟨F, _, Same.refl F, I, List.getElem?_eq_getElem hi, hK ▸ dp_mono sF _ _ e2, trivial⟩
theorem itok_o {K : PySem.W.Frag} {F0 : Hp} {a : Addr} {i0 : Nat} {ds : List PyData} : ItOk K (Itl K a) F0 (fun σ => σ[i0]? = some (some (.ref a))) ⟨ds, [i0], fun ρ' => ownL ρ'[i0]? fun _ es => es = ds⟩ where
  go := fun i C F ρ σ H hK sF I ag ok hi => by
    obtain ⟨t, es, e, rfl⟩ := ownL_ok ok
    obtain ⟨p, vs, f1, f2, f3⟩ := I.at_own e
    have : p = a := by rw [ag] at f1; simpa using f1.symm
    subst this
    have hi : i < es.length := hi
    rw [← dpa_len f3] at hi
    exact ⟨vs, vs[i], .inl (.inl f2), List.getElem?_eq_getElem hi⟩
  stop := fun i C F ρ σ H hK sF I ag ok hi => by
    obtain ⟨t, es, e, rfl⟩ := ownL_ok ok
    obtain ⟨p, vs, f1, f2, f3⟩ := I.at_own e
    have : p = a := by rw [ag] at f1; simpa using f1.symm
    subst this
    exact ⟨vs, .inl (.inl f2), by rw [dpa_len f3]; exact Nat.le_of_eq hi.symm⟩
  yld := fun i C F ρ σ H x H2 hK sF I ag ok hi ⟨e', y⟩ => by
    subst e'
    obtain ⟨t, es, e, rfl⟩ := ownL_ok ok
    obtain ⟨p, vs, f1, f2, f3⟩ := I.at_own e
    have : p = a := by rw [ag] at f1; simpa using f1.symm
    subst this
    have y := y vs (.inl (.inl f2))
    obtain ⟨v, e1, e2⟩ := dpa_get f3 (List.getElem?_eq_getElem hi)
    have : v = x := Option.some.inj (e1.symm.trans y)
    subst this
    exact ⟨F, _, Same.refl F, I, List.getElem?_eq_getElem hi, e2, ok⟩
theorem i_seq (he : AE X e Te) : AI X tg e (aSeqI Te) := pi_of (pi_seq he) fun σ H R ⟨C, F, ρ, Kc, hK, I, h, q⟩ => by
  refine ⟨C, F, ρ, _, hK, I, h, fun F1 v x ρ1 H1 s1 r1 k1 => ?_⟩
  obtain ⟨F2, y, s2, I2, hy, k2⟩ := r1.arg k1
  cases y with
  | dat d =>
    have hy : Dp C.K F2 v d := hy
    rw [hK] at hy
    cases hy with
    | lst hs ha => exact ⟨_, rfl, .inl ⟨⟨_, I2.fz.seq hs⟩, q F2 ρ1 H1 _ _ _ (s1.trans s2) I2 (itok_l hs ha) (fun _ _ => trivial) k2⟩⟩
    | tup hs ha => exact ⟨_, rfl, .inr ⟨⟨_, same_t I2.fz hs⟩, q F2 ρ1 H1 _ _ _ (s1.trans s2) I2 (itok_t hs ha) (fun _ _ => trivial) k2⟩⟩
    | _ => exact k2.elim
  | own t o => exact hy.elim
  | ali i =>
    have hy : σ[i]? = some (some v) := hy
    obtain ⟨t, ds, e, k3⟩ := ownL_ok k2
    obtain ⟨a, vs, f1, f2, f3⟩ := I2.at_own e
    have hv : v = .ref a := by rw [hy] at f1; simpa using f1
    subst hv
    refine ⟨a, rfl, .inl ⟨⟨vs, .inl (.inl f2)⟩, q F2 ρ1 H1 _ _ _ (s1.trans s2) I2 itok_o (fun σ' hσ => ?_) k3⟩⟩
    exact (hσ i (List.mem_singleton.mpr rfl)).trans hy
/-- range(n), range(m, n) -/
def rangeD (lo : Int) (n : Nat) : List PyData := (List.range n).map fun (k : Nat) => PyData.int (lo + (k : Int))
def aRng1 (Te : ATE) : ATI := fun ρ K => Te ρ fun x ρ1 => dd x fun d => iD d fun n => -(2 ^ 62) ≤ n ∧ n < 2 ^ 62 ∧ K ⟨rangeD 0 n.toNat, [], fun _ => True⟩ ρ1
theorem itok_r {K : PySem.W.Frag} {F0 : Hp} {lo : Int} {n : Nat} : ItOk K (Itr lo n) F0 (fun _ => True) ⟨rangeD lo n, [], fun _ => True⟩ where
  go := fun i C F ρ σ H hK sF I _ _ hi => by
    have hi : i < n := by simpa [rangeD] using hi
    exact hi
  stop := fun i C F ρ σ H hK sF I _ _ hi => by
    have : i = n := by simpa [rangeD] using hi
    exact Nat.le_of_eq this.symm
  yld := fun i C F ρ σ H x H2 hK sF I _ _ hi ⟨e, y⟩ => by
    subst e
    subst y
    have hi : i < n := by simpa [rangeD] using hi
    exact ⟨F, _, Same.refl F, I, by simp [rangeD, hi], .int _, trivial⟩
theorem i_rng1 {a : Expr} {p pos : Pos} (hg : Gl X "range") (hm : X.mg "range" = none) (ha : AE X a Te) (hs : starEach [a] X.env = [(false, eval a X.env)] := by rfl) : AI X tg (.Call (.Name "range" p) [a] [] pos) (aRng1 Te) :=
  pi_of (pi_range1 hg hm (pa_cons ha pa_nil hs) hs) fun σ H R ⟨C, F, ρ, Kc, hK, I, h, q⟩ => by
    refine ⟨C, F, ρ, _, hK, I, h, fun F1 v x ρ1 H1 s1 r1 k1 => ?_⟩
    obtain ⟨F2, d, s2, I2, hd, k2⟩ := r1.data k1
    obtain ⟨n, rfl, rfl, h1, h2, k3⟩ := iD_ok hd k2
    exact ⟨n, rfl, h1, h2, q F2 ρ1 H1 _ _ _ (s1.trans s2) I2 itok_r (fun _ _ => trivial) k3⟩
end

/-! ### for -/
def forRun (G : ATG) (T : ATS) : List PyData → AD → AS → Prop
  | [], A, ρ => A.nx ρ
  | d :: ds, A, ρ => G d ρ fun ρ1 => T { A with nx := forRun G T ds A, ct := forRun G T ds A, bk := A.nx } ρ1
/-- the items must be data (a list that the program still changes is not walked so) -/
def aFor (TI : ATI) (G : ATG) (T : ATS) : ATS := fun A ρ => TI ρ fun S ρ1 => S.need = [] ∧ (∀ r, S.ok r) ∧ forRun G T S.ds A ρ1
theorem s_for {X : Cx} {tg iter : Expr} {body : List Stmt} {pos : Pos} {TI : ATI} {is : List Nat} {G : ATG} {T : ATS} (hp : PassesOwn (model X.prog X.w) X.A X.env X.xe) (hc : X.calm = true) (hi : AI X tg iter TI) (hg : AG X tg is G) (hb : ASs X body T)
    (hs : ∀ x, foldedSetIterable iter X.env x = pure x := by intro _; rfl) : AStm X (.For tg iter body [] pos) (aFor TI G T) := ps_of (ps_for hp hc hi hg hb hs) fun D σ H ⟨C, F, ρ, A, hK, I, h, q1, q2, q3, q4⟩ => by
  refine ⟨C, F, ρ, _, hK, I, h, fun F1 ρ1 H1 J S ag s1 I1 it hag ⟨hn, hok, k1⟩ => ?_⟩
  have hag' : ∀ σ', ag σ' := fun σ' => hag σ' fun i hi => by rw [hn] at hi; cases hi
  refine ⟨fun i m σ H => ∃ F2 ρ2 pre ds, Same F1 F2 ∧ SOk C F2 ρ2 σ H ∧ S.ds = pre ++ ds ∧ i = pre.length ∧ m = ds.length ∧ forRun G T ds A ρ2, ⟨S.ds.length, F1, ρ1, [], S.ds, Same.refl _, I1, rfl, rfl, rfl, k1⟩, ?_⟩
  rintro i m σ2 H2 ⟨F2, ρ2, pre, ds, s2, I2, e, rfl, rfl, k2⟩
  cases ds with
  | nil =>
    refine .inl ⟨it.stop _ C F2 ρ2 σ2 H2 hK s2 I2 (hag' _) (hok _) (by rw [e, List.append_nil]), ?_⟩
    exact q1 F2 ρ2 σ2 H2 (s1.trans s2) I2 k2
  | cons d ds =>
    have hlt : pre.length < S.ds.length := by rw [e]; simp
    refine .inr ⟨it.go _ C F2 ρ2 σ2 H2 hK s2 I2 (hag' _) (hok _) hlt, fun σ H => ∃ F3 ρ3, Same F1 F3 ∧ SOk C F3 ρ3 σ H ∧ forRun G T ds A ρ3, fun σ' H' ⟨F3, ρ3, g1, g2, g3⟩ => ?_, fun x H' y => ?_⟩
    · exact ⟨ds.length, by simp, F3, ρ3, pre ++ [d], ds, g1, g2, by rw [e]; simp, by simp, rfl, g3⟩
    · obtain ⟨F3, d', s3, I3, ed, hd, _⟩ := it.yld _ C F2 ρ2 σ2 H2 x H' hK s2 I2 (hag' _) (hok _) hlt y
      have : d' = d := by
        rw [e] at ed
        simpa using ed.symm
      subst this
      refine ⟨C, F3, ρ2, d', _, hK, I3, hd, k2, fun ρ4 σ4 I4 _ _ k4 => ?_⟩
      have S4 := (s1.trans s2).trans s3
      refine ⟨C, F3, ρ4, _, hK, I4, k4, fun F5 ρ5 σ5 H5 s5 I5 k5 => ⟨F5, ρ5, (s2.trans s3).trans s5, I5, k5⟩, fun F5 ρ5 σ5 H5 v x s5 => q2 F5 ρ5 σ5 H5 v x (S4.trans s5), fun F5 ρ5 σ5 H5 s5 I5 k5 => q1 F5 ρ5 σ5 H5 (S4.trans s5) I5 k5, fun F5 ρ5 σ5 H5 s5 I5 k5 => ⟨F5, ρ5, (s2.trans s3).trans s5, I5, k5⟩⟩
/-- the owned list of slot i becomes data -/
theorem SOk.freezeAt {C : Fx} {F : Hp} {ρ : AS} {σ : St} {H : Hp} {i : Nat} {t : Option Nat} {ds : List PyData} (I : SOk C F ρ σ H) (hi : ρ[i]? = some (some (.own t (.lst ds)))) : ∃ F', Same F F' ∧ SOk C F' (ρ.set i (some (.dat (.list ds)))) σ H := by
  obtain ⟨S, s1, s2, s3⟩ := I.own
  obtain ⟨a, e1, ⟨e2, vs, e3, e4⟩, _⟩ := s1 i t (.lst ds) hi
  have sa : S i a := (e2 a).mpr rfl
  obtain ⟨n1, n2, n3⟩ := s2 i a sa
  have e : Same F (upd F a (.lst vs)) := same_upd' n1
  have hlt : i < ρ.length := (List.getElem?_eq_some_iff.mp hi).1
  refine ⟨upd F a (.lst vs), e, ?_⟩
  refine ⟨by simp [I.len], fun b u q => ?_, I.fr, fun b u q => ?_, fun j d q => ?_, fun j b => j ≠ i ∧ S j b, fun j t' o q => ?_, fun j b sb => ?_, fun j k b si sj => s3 j k b si.2 sj.2⟩
  · by_cases hb : b = a
    · subst hb
      rw [upd_same] at q
      cases q
      exact e3
    · rw [upd_ne hb] at q
      exact I.fz b u q
  · by_cases hb : b = a
    · subst hb
      exact .inr n2
    · rw [upd_ne hb] at q
      exact I.nf b u q
  · rw [List.getElem?_set] at q
    split at q
    · rename_i hij
      subst hij
      simp at q
      subst q
      exact ⟨_, e1, .lst (SqL.of upd_same) (dpa_mono e _ _ e4)⟩
    · obtain ⟨w, q1, q2⟩ := I.dat j d q
      exact ⟨w, q1, dp_mono e _ _ q2⟩
  · rw [List.getElem?_set] at q
    split at q
    · simp at q
    · rename_i hij
      obtain ⟨c, f1, f2, f3⟩ := s1 j t' o q
      have hji : j ≠ i := fun z => hij z.symm
      refine ⟨c, f1, ?_, f3⟩
      have : (fun b => j ≠ i ∧ S j b) = S j := by
        funext b
        simp [hji]
      show Ho C.K _ H c (fun b => j ≠ i ∧ S j b) o
      rw [this]
      exact ho_mono e (fun _ _ => rfl) f2
  · have hb : b ≠ a := fun z => by
      subst z
      exact sb.1 (s3 _ _ _ sb.2 sa)
    rw [upd_ne hb]
    exact s2 j b sb.2
/-- a statement, the lists of some slots made data ahead of it -/
def aFrz (i : Nat) (T : ATS) : ATS := fun A ρ => ownL ρ[i]? fun _ ds => T A (ρ.set i (some (.dat (.list ds))))
theorem s_frz {X : Cx} {st : Stmt} {T : ATS} (i : Nat) (h : AStm X st T) : AStm X st (aFrz i T) := ps_of h fun D σ H ⟨C, F, ρ, A, hK, I, h, q1, q2, q3, q4⟩ => by
  obtain ⟨t, ds, e, h⟩ := ownL_ok h
  obtain ⟨F1, s1, I1⟩ := I.freezeAt e
  exact ⟨C, F1, _, A, hK, I1, h, fun F2 ρ2 σ2 H2 s2 => q1 F2 ρ2 σ2 H2 (s1.trans s2), fun F2 ρ2 σ2 H2 v x s2 => q2 F2 ρ2 σ2 H2 v x (s1.trans s2), fun F2 ρ2 σ2 H2 s2 => q3 F2 ρ2 σ2 H2 (s1.trans s2), fun F2 ρ2 σ2 H2 s2 => q4 F2 ρ2 σ2 H2 (s1.trans s2)⟩

/-! ### list comprehensions -/
def wipeA (ρ : AS) : List Nat → AS
  | [] => ρ
  | v :: vs => (wipeA ρ vs).set v none
/-- the slots vs as they were in ρ -/
def restA (ρ ρ' : AS) : List Nat → AS
  | [] => ρ'
  | v :: vs => (restA ρ ρ' vs).set v (ρ[v]?.getD none)
def freeOf (ρ : AS) (need : List Nat) : List Nat → Prop
  | [] => True
  | v :: vs => (match ρ[v]? with | some (some (.own _ _)) => False | _ => True) ∧ v ∉ need ∧ freeOf ρ need vs
def turn (G : ATG) (U : ATT) (Te : ATE) (vs : List Nat) (d : PyData) (ρ : AS) (Ka : PyData → AS → Prop) (Ks : AS → Prop) : Prop :=
  G d (wipeA ρ vs) fun ρ1 => U ρ1 fun b ρ2 => br b (Te ρ2 fun y ρ3 => dd y fun dy => Ka dy (restA ρ ρ3 vs)) (Ks (restA ρ ρ2 vs))
def lcRun (G : ATG) (U : ATT) (Te : ATE) (vs need : List Nat) (ok : AS → Prop) : List PyData → List PyData → AS → (List PyData → AS → Prop) → Prop
  | [], acc, ρ, K => ok ρ ∧ K acc ρ
  | d :: ds, acc, ρ, K => ok ρ ∧ freeOf ρ need vs ∧ turn G U Te vs d ρ (fun dy ρ' => acc.length < sizeLine ∧ lcRun G U Te vs need ok ds (acc ++ [dy]) ρ' K) (fun ρ' => lcRun G U Te vs need ok ds acc ρ' K)
def aLc (TI : ATI) (G : ATG) (U : ATT) (Te : ATE) (vs : List Nat) : ATE := fun ρ K => TI ρ fun S ρ1 => lcRun G U Te vs S.need S.ok S.ds [] ρ1 fun acc ρ2 => K (.own none (.lst acc)) ρ2
def aYes : ATT := fun ρ K => K true ρ
theorem wipeA_len (ρ : AS) : ∀ vs, (wipeA ρ vs).length = ρ.length
  | [] => rfl
  | v :: vs => by simp [wipeA, wipeA_len ρ vs]
theorem restA_len (ρ ρ' : AS) : ∀ vs, (restA ρ ρ' vs).length = ρ'.length
  | [] => rfl
  | v :: vs => by simp [restA, restA_len ρ ρ' vs]
theorem wipeA_some {ρ : AS} {i : Nat} {x : AV} : ∀ {vs : List Nat}, (wipeA ρ vs)[i]? = some (some x) → ρ[i]? = some (some x) ∧ i ∉ vs
  | [], h => ⟨h, by simp⟩
  | v :: vs, h => by
    unfold wipeA at h
    by_cases hi : v = i
    · subst hi
      rw [List.getElem?_set] at h
      split at h
      · split at h
        · simp at h
        · cases h
      · rename_i z
        exact absurd rfl z
    · rw [List.getElem?_set_ne hi] at h
      obtain ⟨h1, h2⟩ := wipeA_some h
      exact ⟨h1, by simp only [List.mem_cons, not_or]; exact ⟨fun e => hi e.symm, h2⟩⟩
theorem restA_out {ρ ρ' : AS} {i : Nat} : ∀ {vs : List Nat}, i ∉ vs → (restA ρ ρ' vs)[i]? = ρ'[i]?
  | [], _ => rfl
  | v :: vs, h => by
    simp only [List.mem_cons, not_or] at h
    unfold restA
    rw [List.getElem?_set_ne (fun z => h.1 z.symm), restA_out h.2]
theorem restA_in {ρ ρ' : AS} {i : Nat} {x : AV} : ∀ {vs : List Nat}, i ∈ vs → (restA ρ ρ' vs)[i]? = some (some x) → ρ[i]? = some (some x)
  | [], h, _ => by cases h
  | v :: vs, h, e => by
    unfold restA at e
    by_cases hi : v = i
    · subst hi
      rw [List.getElem?_set] at e
      split at e
      · split at e
        · have e : ρ[v]?.getD none = some x := Option.some.inj e
          cases q : ρ[v]? with
          | none => rw [q] at e; cases e
          | some u => rw [q] at e; simp at e; rw [e]
        · cases e
      · rename_i z
        exact absurd rfl z
    · rw [List.getElem?_set_ne hi] at e
      refine restA_in ?_ e
      rcases List.mem_cons.mp h with z | z
      · exact absurd z.symm hi
      · exact z
theorem freeOf_own {ρ : AS} {need : List Nat} {i : Nat} : ∀ {vs : List Nat}, freeOf ρ need vs → i ∈ vs → (∀ t o, ρ[i]? ≠ some (some (.own t o))) ∧ i ∉ need
  | [], _, h => by cases h
  | v :: vs, hf, h => by
    obtain ⟨h1, h2, h3⟩ := hf
    rcases List.mem_cons.mp h with rfl | h
    · refine ⟨fun t o e => ?_, h2⟩
      rw [e] at h1
      exact h1
    · exact freeOf_own h3 h

/-- within a block: the new list at D is held by the frame -/
def Fx.hold (C : Fx) (F : Hp) (D : Addr) (vs : List V) : Fx := { C with B := upd C.B D (.lst vs), F0 := F }
theorem SOk.into {C : Fx} {F : Hp} {ρ : AS} {σ : St} {H : Hp} {D : Addr} {vs : List V} {acc : List PyData} {ws : List Nat} (I : SOk C F (some (.own none (.lst acc)) :: ρ) (some (.ref D) :: σ) H) (hD : H D = some (.lst vs)) : SOk (C.hold F D vs) F (wipeA ρ ws) (wipe σ ws) H := by
  obtain ⟨S, s1, s2, s3⟩ := I.own
  obtain ⟨a, e1, ⟨e2, vs', e3, e4⟩, _⟩ := s1 0 none (.lst acc) rfl
  have : D = a := by simpa using e1
  subst this
  have sD : S 0 D := (e2 D).mpr rfl
  have J := I.tail
  refine ⟨by rw [wipeA_len, wipe_length]; exact J.len, I.fz, fun b u q => ?_, fun b u q => .inl q, fun i d q => ?_, fun i b => S (i + 1) b, fun i t o q => ?_, fun i b sb => ?_, fun i j b si sj => ?_⟩
  · by_cases hb : b = D
    · subst hb
      have q : upd C.B b (.lst vs) b = some u := q
      rw [upd_same] at q
      cases q
      exact hD
    · have q : upd C.B D (.lst vs) b = some u := q
      rw [upd_ne hb] at q
      exact I.fr b u q
  · obtain ⟨q1, q2⟩ := wipeA_some q
    obtain ⟨v, g1, g2⟩ := J.dat i d q1
    exact ⟨v, by rw [wipe_out q2]; exact g1, g2⟩
  · obtain ⟨q1, q2⟩ := wipeA_some q
    obtain ⟨c, f1, f2, f3⟩ := s1 (i + 1) t o (by simpa using q1)
    exact ⟨c, by rw [wipe_out q2]; simpa using f1, f2, f3⟩
  · obtain ⟨n1, n2, n3⟩ := s2 (i + 1) b sb
    have hb : b ≠ D := fun z => by
      subst z
      have := s3 _ _ _ sb sD
      omega
    refine ⟨n1, ?_, n3⟩
    show upd C.B D (.lst vs) b = none
    rw [upd_ne hb]
    exact n2
  · have := s3 _ _ b si sj
    omega
theorem SOk.outof {C : Fx} {F F' : Hp} {ρ ρ' : AS} {σ σ' : St} {H H' : Hp} {D : Addr} {vs : List V} {acc : List PyData} {ws need : List Nat} (I : SOk C F (some (.own none (.lst acc)) :: ρ) (some (.ref D) :: σ) H) (hD : H D = some (.lst vs)) (hv : DpAll C.K F vs acc)
    (hf : freeOf ρ need ws) (s : Same F F') (J : SOk (C.hold F D vs) F' ρ' σ' H') (hl : σ'.length = σ.length) (hσ : ∀ j : Nat, j ∉ ws → σ'[j]? = σ[j]?) :
    SOk C F' (some (.own none (.lst acc)) :: restA ρ ρ' ws) (some (.ref D) :: σ) H' := by
  obtain ⟨S, s1, s2, s3⟩ := I.own
  obtain ⟨a, e1, ⟨e2, vs', e3, e4⟩, _⟩ := s1 0 none (.lst acc) rfl
  have : D = a := by simpa using e1
  subst this
  have sD : S 0 D := (e2 D).mpr rfl
  obtain ⟨m1, m2, m3⟩ := s2 0 D sD
  obtain ⟨T, t1, t2, t3⟩ := J.own
  have hB : ∀ b, (C.hold F D vs).B b = none → b ≠ D ∧ C.B b = none := fun b q => by
    have q : upd C.B D (.lst vs) b = none := q
    by_cases hb : b = D
    · subst hb
      rw [upd_same] at q
      cases q
    · rw [upd_ne hb] at q
      exact ⟨hb, q⟩
  have hD' : H' D = some (.lst vs) := J.fr D _ (show upd C.B D (.lst vs) D = some (.lst vs) from upd_same)
  have hFD : F' D = none := by
    cases q : F' D with
    | none => rfl
    | some u =>
      rcases J.nf D u q with z | z
      · have z : F D = some u := z
        rw [m1] at z
        cases z
      · exact absurd rfl (hB D z).1
  have noown : ∀ (i : Nat) t o, (restA ρ ρ' ws)[i]? = some (some (.own t o)) → i ∉ ws := fun i t o q hi => (freeOf_own hf hi).1 t o (restA_in hi q)
  refine ⟨by simp [restA_len, J.len, hl], J.fz, fun b u q => ?_, fun b u q => ?_, fun i d q => ?_, fun i b => match i with | 0 => b = D | i + 1 => i ∉ ws ∧ T i b, fun i t o q => ?_, fun i b sb => ?_, fun i j b si sj => ?_⟩
  · refine J.fr b u ?_
    show upd C.B D (.lst vs) b = some u
    have hb : b ≠ D := fun z => by
      subst z
      rw [m2] at q
      cases q
    rw [upd_ne hb]
    exact q
  · rcases J.nf b u q with z | z
    · exact I.nf b u z
    · exact .inr (hB b z).2
  · cases i with
    | zero => simp at q
    | succ i =>
      have q : (restA ρ ρ' ws)[i]? = some (some (.dat d)) := by simpa using q
      by_cases hi : i ∈ ws
      · obtain ⟨v, g1, g2⟩ := I.dat (i + 1) d (by simpa using restA_in hi q)
        exact ⟨v, g1, dp_mono s _ _ g2⟩
      · rw [restA_out hi] at q
        obtain ⟨v, g1, g2⟩ := J.dat i d q
        exact ⟨v, by simpa using (hσ i hi).symm.trans g1, g2⟩
  · cases i with
    | zero =>
      simp at q
      obtain ⟨rfl, rfl⟩ := q
      exact ⟨D, rfl, ⟨fun b => Iff.rfl, vs, hD', dpa_mono s _ _ hv⟩, fun j e => nomatch e⟩
    | succ i =>
      have q : (restA ρ ρ' ws)[i]? = some (some (.own t o)) := by simpa using q
      have hi := noown i t o q
      rw [restA_out hi] at q
      obtain ⟨c, f1, f2, f3⟩ := t1 i t o q
      refine ⟨c, by simpa using (hσ i hi).symm.trans f1, ?_, f3⟩
      have : (fun b => i ∉ ws ∧ T i b) = T i := by
        funext b
        simp [hi]
      show Ho C.K F' H' c (fun b => i ∉ ws ∧ T i b) o
      rw [this]
      exact f2
  · cases i with
    | zero =>
      have e : b = D := sb
      subst e
      exact ⟨hFD, m2, by rw [hD']; simp⟩
    | succ i =>
      obtain ⟨n1, n2, n3⟩ := t2 i b sb.2
      exact ⟨n1, (hB b n2).2, n3⟩
  · cases i with
    | zero =>
      cases j with
      | zero => rfl
      | succ j => exact absurd si (hB b (t2 j b sj.2).2.1).1
    | succ i =>
      cases j with
      | zero => exact absurd sj (hB b (t2 i b si.2).2.1).1
      | succ j => rw [t3 i j b si.2 sj.2]
theorem wipe_same {σ σ' : St} : ∀ (vs : List Nat), (∀ j : Nat, j ∉ vs → σ'[j]? = σ[j]?) → σ'.length = σ.length → wipe σ' vs = wipe σ vs := fun vs h hl => by
  apply List.ext_getElem?
  intro j
  by_cases hj : j ∈ vs
  · have : ∀ σ : St, (wipe σ vs)[j]? = if j < σ.length then some none else none := fun σ => by
      clear h hl
      induction vs with
      | nil => cases hj
      | cons v vs ih =>
        unfold wipe
        rw [List.getElem?_set, wipe_length]
        by_cases e : v = j
        · subst e
          rw [if_pos rfl]
        · rw [if_neg e]
          rcases List.mem_cons.mp hj with z | z
          · exact absurd z.symm e
          · exact ih z
    rw [this, this, hl]
  · rw [wipe_out hj, wipe_out hj, h j hj]
theorem w_lc {K : PySem.W.Frag} {TI : ATI} {G : ATG} {U : ATT} {Te : ATE} {vs : List Nat} {is : List Nat} (his : ∀ i ∈ is, i ∈ vs) : ∀ σ H Q, cE K (aLc TI G U Te vs) σ H Q → tLc (cI K TI) (cG K is G) (cT K U) (cE K Te) vs σ H Q := fun σ H Q ⟨C, F, ρ, Kc, hK, I, h, q⟩ => by
  refine ⟨C, F, ρ, _, hK, I, h, fun F1 ρ1 H1 J S ag s1 I1 it hag k1 => ?_⟩
  intro D hD
  refine ⟨fun i m H => ∃ F2 ρ2 pre ds acc ws, Same F1 F2 ∧ SOk C F2 (some (.own none (.lst acc)) :: ρ2) (some (.ref D) :: σ) H ∧ H D = some (.lst ws) ∧ DpAll C.K F2 ws acc ∧ S.ds = pre ++ ds ∧ i = pre.length ∧ m = ds.length ∧
    lcRun G U Te vs S.need S.ok ds acc ρ2 (fun acc ρ2 => Kc (.own none (.lst acc)) ρ2), ⟨S.ds.length, F1, ρ1, [], S.ds, [], [], Same.refl _, I1.newOwn hD .nil, upd_same, .nil, rfl, rfl, rfl, k1⟩, ?_⟩
  rintro i m H2 ⟨F2, ρ2, pre, ds, acc, ws, s2, I2, hw, ha, e, rfl, rfl, k2⟩
  cases ds with
  | nil =>
    obtain ⟨hok, k3⟩ := k2
    refine .inl ⟨it.stop _ C F2 ρ2 σ H2 hK s2 I2.tail (hag σ fun _ _ => rfl) hok (by rw [e, List.append_nil]), ?_⟩
    exact q F2 (.ref D) (.own none (.lst acc)) ρ2 H2 (s1.trans s2) I2 k3
  | cons d ds =>
    obtain ⟨hok, hf, k3⟩ := k2
    have hlt : pre.length < S.ds.length := by rw [e]; simp
    refine .inr ⟨it.go _ C F2 ρ2 σ H2 hK s2 I2.tail (hag σ fun _ _ => rfl) hok hlt, fun H => ∃ F3 ρ3 acc ws, Same F1 F3 ∧ SOk C F3 (some (.own none (.lst acc)) :: ρ3) (some (.ref D) :: σ) H ∧ H D = some (.lst ws) ∧ DpAll C.K F3 ws acc ∧ lcRun G U Te vs S.need S.ok ds acc ρ3 (fun acc ρ2 => Kc (.own none (.lst acc)) ρ2),
      fun H' ⟨F3, ρ3, acc, ws, g1, g2, g3, g4, g5⟩ => ⟨ds.length, by simp, F3, ρ3, pre ++ [d], ds, acc, ws, g1, g2, g3, g4, by rw [e]; simp, by simp, rfl, g5⟩, fun x H' y => ?_⟩
    obtain ⟨F3, d', s3, I3, ed, hd, _⟩ := it.yld _ (C.hold F2 D ws) F2 ρ2 σ H2 x H' hK s2 (I2.into (ws := []) hw) (hag σ fun _ _ => rfl) hok hlt y
    have : d' = d := by
      rw [e] at ed
      simpa using ed.symm
    subst this
    have I3' : SOk C F3 (some (.own none (.lst acc)) :: ρ2) (some (.ref D) :: σ) H' := I2.outof (ws := []) (need := []) hw ha trivial s3 I3 rfl fun _ _ => rfl
    have hw3 : H' D = some (.lst ws) := I3.fr D _ (show upd C.B D (.lst ws) D = some (.lst ws) from upd_same)
    have ha3 := dpa_mono s3 _ _ ha
    have I4 : SOk (C.hold F3 D ws) F3 (wipeA ρ2 vs) (wipe σ vs) H' := I3'.into hw3
    refine ⟨C.hold F3 D ws, F3, wipeA ρ2 vs, d', _, hK, I4, hd, k3, fun ρ5 σ5 I5 l5 f5 k5 => ?_⟩
    have hl : σ5.length = σ.length := l5.trans (wipe_length σ vs)
    have hσ : ∀ j : Nat, j ∉ vs → σ5[j]? = σ[j]? := fun j hj => (f5 j fun z => hj (his j z)).trans (wipe_out hj)
    refine ⟨wipe_same vs hσ hl, C.hold F3 D ws, F3, ρ5, _, hK, I5, k5, fun F6 b ρ6 H6 s6 I6 k6 => ?_⟩
    have SS := s2.trans s3
    cases b with
    | false =>
      refine iteF ⟨F6, restA ρ2 ρ6 vs, acc, ws, SS.trans s6, I3'.outof hw3 ha3 hf s6 I6 hl hσ, ?_, dpa_mono s6 _ _ ha3, k6.2 rfl⟩
      exact I6.fr D _ (show upd C.B D (.lst ws) D = some (.lst ws) from upd_same)
    | true =>
      refine iteT ⟨C.hold F3 D ws, F6, ρ6, _, hK, I6, k6.1 rfl, fun F7 v y ρ7 H7 s7 r7 k7 => ?_⟩
      obtain ⟨F8, dy, s8, I8, hd8, hz, k8⟩ := r7.data k7
      have S8 := (s6.trans s7).trans s8
      have I9 := I3'.outof hw3 ha3 hf S8 I8 hl hσ
      have hw9 : H7 D = some (.lst ws) := I8.fr D _ (show upd C.B D (.lst ws) D = some (.lst ws) from upd_same)
      have ha9 := dpa_mono S8 _ _ ha3
      refine ⟨ws, hw9, by rw [dpa_len ha3]; exact hz, F8, restA ρ2 ρ7 vs, acc ++ [dy], ws ++ [v], SS.trans S8, ?_, upd_same, dpa_app ha9 (.cons hd8 .nil), k8⟩
      exact I9.mut (i := 0) rfl rfl (dpa_app ha9 (.cons hd8 .nil))
section
variable {X : Cx}
theorem e_lc {elt tg iter : Expr} {ifs : List Expr} {scope : Scope} {own : List (Str × Nat)} {pos : Pos} {TI : ATI} {G : ATG} {U : ATT} {Te : ATE} {is : List Nat} (hc : X.calm = true) (hN : X.N.Nodup) (hi : AI X tg iter TI) (ok : BlkOk X.N X.env.scope scope own)
    (hg : ∀ (s : Shared) (H : Hp) (C : Addr) (cl : List (Str × Addr)) (fp : List Addr), AG (X.blk s H scope (compEnvC scope cl C X.env) fp) tg is G) (ht : ∀ (s : Shared) (H : Hp) (C : Addr) (cl : List (Str × Addr)) (fp : List Addr), PTs (X.blk s H scope (compEnvC scope cl C X.env) fp) ifs (cT X.K U))
    (he : ∀ (s : Shared) (H : Hp) (C : Addr) (cl : List (Str × Addr)) (fp : List Addr), AE (X.blk s H scope (compEnvC scope cl C X.env) fp) elt Te) (his : ∀ i ∈ is, i ∈ own.map (·.2) := by decide) (hs : ∀ x, foldedSetIterable iter X.env x = pure x := by intro _; rfl) :
    AE X (.ListComp elt [⟨tg, iter, ifs, 0⟩] scope pos) (aLc TI G U Te (own.map (·.2))) := pe_of (pe_lc (g := cG X.K is G) (tt := cT X.K U) (te := cE X.K Te) hc hN hi ok hg ht he hs) (w_lc his)
theorem s_setLc {i : Nat} {y : Str} {py : Pos} {elt tg iter : Expr} {ifs : List Expr} {scope : Scope} {own : List (Str × Nat)} {pos spos : Pos} {TI : ATI} {G : ATG} {U : ATT} {Te : ATE} {is : List Nat} (hc : X.calm = true) (hN : X.N.Nodup) (hy : X.N[i]? = some y) (hyl : X.env.scope.names.lookup y = some .local)
    (hsw : swapsWith (.ListComp elt [⟨tg, iter, ifs, 0⟩] scope pos) (some (.Name y py)) spos.line X.env = pure true) (hi : AI X tg iter TI) (ok : BlkOk X.N X.env.scope scope own)
    (hg : ∀ (s : Shared) (H : Hp) (C : Addr) (cl : List (Str × Addr)) (fp : List Addr), AG (X.blk s H scope (compEnvC scope cl C X.env) fp) tg is G) (ht : ∀ (s : Shared) (H : Hp) (C : Addr) (cl : List (Str × Addr)) (fp : List Addr), PTs (X.blk s H scope (compEnvC scope cl C X.env) fp) ifs (cT X.K U))
    (he : ∀ (s : Shared) (H : Hp) (C : Addr) (cl : List (Str × Addr)) (fp : List Addr), AE (X.blk s H scope (compEnvC scope cl C X.env) fp) elt Te) (his : ∀ i ∈ is, i ∈ own.map (·.2) := by decide) (hs : ∀ x, foldedSetIterable iter X.env x = pure x := by intro _; rfl) :
    AStm X (.Assign [.Name y py] (.ListComp elt [⟨tg, iter, ifs, 0⟩] scope pos) spos) (aSet i (aLc TI G U Te (own.map (·.2)))) :=
  ps_of (ps_setLc (g := cG X.K is G) (tt := cT X.K U) (te := cE X.K Te) hc hN hy hyl hsw hi ok hg ht he hs) fun D σ H h => by
    have h2 := w_set (K := X.K) D σ H h
    exact w_lc his σ H _ h2
theorem ts_nil : PTs X [] (cT X.K aYes) := ⟨fun pins s σ H Q I h => pts_nil.run pins s σ H Q I (by
  obtain ⟨C, F, ρ, Kc, hK, J, h, q⟩ := h
  exact q F true ρ H (Same.refl F) J h)⟩
theorem ts_one {c : Expr} {U : ATT} (h : AT X c U) : PTs X [c] (cT X.K U) := pts_one h
end
end Ab

set_option maxHeartbeats 4000000
/-! Ab7: defs and their calls. -/
namespace Ab
open PySem PySem.Spec PyProof.Rows L2

/-- a def's promise by data: its first argument owned or not, the others' data, what is wanted of the result and of the first argument behind it -/
abbrev ASp := Option OV → List PyData → (AV → Option OV → Prop) → Prop
def argS (oo : Option OV) (ds : List PyData) : AS := (match oo with | some o => [some (.own (some 0) o)] | none => []) ++ ds.map fun d => some (.dat d)
def toSp (K : PySem.W.Frag) (a : ASp) : Sp := fun vs H Q _ => ∃ (C : Fx) (F : Hp) (oo : Option OV) (ds : List PyData) (Kc : AV → Option OV → Prop), C.K = K ∧ SOk C F (argS oo ds) (vs.map some) H ∧ a oo ds Kc ∧ ∀ x oo', Kc x oo' → ∀ F' v H', Same F F' → Res C F' (argS oo' ds) (vs.map some) H' v x → Q v H'
/-- the owned first argument at a def's end -/
def finO : Option (Option AV) → (Option OV → Prop) → Prop
  | some (some (.own (some 0) o)), k => k (some o)
  | _, _ => False
def fin (oo : Option OV) (ρ : AS) (k : Option OV → Prop) : Prop := match oo with
  | none => k none
  | some _ => finO ρ[0]? k
def notAli : AV → Prop → Prop
  | .ali _, _ => False
  | _, p => p
def adOf (oo : Option OV) (Kc : AV → Option OV → Prop) : AD where
  nx := fun ρ => fin oo ρ (Kc (.dat .none))
  rt := fun x ρ => notAli x (fin oo ρ (Kc x))
  bk := fun _ => False
  ct := fun _ => False
theorem SOk.remap {C : Fx} {F : Hp} {ρ ρ2 : AS} {σ σ2 : St} {H : Hp} (J : SOk C F ρ σ H) (m : Nat → Nat) (inj : ∀ i j, m i = m j → i = j) (hl : ρ2.length = σ2.length) (hd : ∀ (i : Nat) d, ρ2[i]? = some (some (.dat d)) → ∃ v, σ2[i]? = some (some v) ∧ Dp C.K F v d)
    (ho : ∀ (i : Nat) t o, ρ2[i]? = some (some (.own t o)) → ρ[m i]? = some (some (.own t o)) ∧ σ2[i]? = σ[m i]?) : SOk C F ρ2 σ2 H := by
  obtain ⟨S, s1, s2, s3⟩ := J.own
  refine ⟨hl, J.fz, J.fr, J.nf, hd, fun i => S (m i), fun i t o q => ?_, fun i b sb => s2 (m i) b sb, fun i j b si sj => inj _ _ (s3 _ _ b si sj)⟩
  obtain ⟨q1, q2⟩ := ho i t o q
  obtain ⟨a, e1, e2, e3⟩ := s1 (m i) t o q1
  exact ⟨a, q2.trans e1, e2, e3⟩
theorem argS_dat {oo : Option OV} {ds : List PyData} {i : Nat} {d : PyData} (h : (argS oo ds)[i]? = some (some (.dat d))) : ∀ oo2 : Option OV, oo2.isSome = oo.isSome → (argS oo2 ds)[i]? = some (some (.dat d)) := fun oo2 e => by
  cases oo with
  | none =>
    cases oo2 with
    | none => exact h
    | some _ => cases e
  | some o =>
    cases oo2 with
    | none => cases e
    | some o2 =>
      cases i with
      | zero => simp [argS] at h
      | succ i => simpa [argS] using h
theorem argS_own {oo : Option OV} {ds : List PyData} {i : Nat} {t : Option Nat} {o : OV} (h : (argS oo ds)[i]? = some (some (.own t o))) : i = 0 ∧ t = some 0 ∧ oo = some o := by
  cases oo with
  | none =>
    simp [argS] at h
  | some o' =>
    cases i with
    | zero =>
      simp [argS] at h
      exact ⟨rfl, h.1.symm, by rw [h.2]⟩
    | succ i => simp [argS] at h
theorem argS_len {oo oo2 : Option OV} {ds : List PyData} (e : oo2.isSome = oo.isSome) : (argS oo2 ds).length = (argS oo ds).length := by
  cases oo <;> cases oo2 <;> simp_all [argS]
theorem fin_ok {oo : Option OV} {ρ : AS} {k : Option OV → Prop} (h : fin oo ρ k) : ∃ oo' : Option OV, oo'.isSome = oo.isSome ∧ k oo' ∧ ∀ o, oo' = some o → ρ[0]? = some (some (.own (some 0) o)) := by
  cases oo with
  | none => exact ⟨none, rfl, h, fun o e => nomatch e⟩
  | some o =>
    have h : finO ρ[0]? k := h
    generalize e : ρ[0]? = q at h
    unfold finO at h
    split at h
    · rename_i o2
      exact ⟨some o2, rfl, h, fun o e2 => by cases e2; first | exact e | rfl⟩
    · exact h.elim
/-- at a def's end: the arguments' state again -/
theorem back {C : Fx} {F F' : Hp} {oo oo' : Option OV} {ds : List PyData} {vs : List V} {H H' : Hp} {ρ' : AS} {σ' : St} {v : V} {x : AV} (I : SOk C F (argS oo ds) (vs.map some) H) (s : Same F F') (h : Res C F' ρ' σ' H' v x) (hx : notAli x True) (e : oo'.isSome = oo.isSome)
    (h0 : ∀ o, oo' = some o → ρ'[0]? = some (some (.own (some 0) o))) : Res C F' (argS oo' ds) (vs.map some) H' v x := by
  have hl : (argS oo' ds).length = (vs.map some).length := (argS_len e).trans I.len
  have hd : ∀ (i : Nat) d, (argS oo' ds)[i]? = some (some (.dat d)) → ∃ v, (vs.map some)[i]? = some (some v) ∧ Dp C.K F' v d := fun i d q => by
    obtain ⟨v, e1, e2⟩ := I.dat i d (argS_dat q oo e.symm)
    exact ⟨v, e1, dp_mono s _ _ e2⟩
  have h00 : ∀ {J : SOk C F' ρ' σ' H'} o, oo' = some o → (vs.map some)[0]? = σ'[0]? := fun {J} o e2 => by
    obtain ⟨S, s1, _, _⟩ := J.own
    obtain ⟨a, f1, f2, f3⟩ := s1 0 _ o (h0 o e2)
    subst e2
    cases oo with
    | none => cases e
    | some o1 =>
      obtain ⟨T, t1, _, _⟩ := I.own
      obtain ⟨a', g1, g2, g3⟩ := t1 0 (some 0) o1 rfl
      have := (g3 0 rfl).symm.trans (f3 0 rfl)
      rw [g1, f1, Option.some.inj this]
  cases x with
  | dat d =>
    obtain ⟨J, hd'⟩ := h
    refine ⟨J.remap id (fun _ _ z => z) hl hd fun i t o q => ?_, hd'⟩
    obtain ⟨rfl, rfl, e2⟩ := argS_own q
    exact ⟨h0 o e2, h00 (J := J) o e2⟩
  | own t2 o2 =>
    have h : SOk C F' (some (.own t2 o2) :: ρ') (some v :: σ') H' := h
    show SOk C F' (some (.own t2 o2) :: argS oo' ds) (some v :: vs.map some) H'
    refine h.remap id (fun _ _ z => z) (by simp [hl]) (fun i d q => ?_) fun i t o q => ?_
    · cases i with
      | zero => simp at q
      | succ i => simpa using hd i d (by simpa using q)
    · cases i with
      | zero => exact ⟨q, rfl⟩
      | succ i =>
        obtain ⟨rfl, rfl, e2⟩ := argS_own (by simpa using q)
        exact ⟨by simpa using h0 o e2, by simpa using h00 (J := h.tail) o e2⟩
  | ali i => exact hx.elim
theorem notAli_ok {x : AV} {p : Prop} (h : notAli x p) : notAli x True ∧ p := by
  cases x with
  | ali i => exact h.elim
  | dat d => exact ⟨trivial, h⟩
  | own t o => exact ⟨trivial, h⟩

section
variable {P : Program} {w : World} {K : PySem.W.Frag} {mg : Str → Option Value} {base : Heap}
theorem start_ok {C : Fx} {F H : Hp} {oo : Option OV} {ds : List PyData} {vs : List V} (I : SOk C F (argS oo ds) (vs.map some) H) {N ps : List Str} (hl : (argS oo ds).length = ps.length) : SOk C F (argS oo ds ++ List.replicate (N.length - ps.length) none) (L2.start N vs) H := by
  have hv : vs.length = ps.length := by
    have := I.len
    rw [List.length_map] at this
    omega
  refine I.weak (by unfold L2.start; simp [hl, hv]) fun i x q => ?_
  by_cases hi : i < (argS oo ds).length
  · rw [List.getElem?_append_left hi] at q
    refine ⟨q, ?_⟩
    unfold L2.start
    rw [List.getElem?_append_left (by simp; omega)]
  · rw [List.getElem?_append_right (by omega), List.getElem?_replicate] at q
    split at q
    · simp at q
    · cases q
/-- THE RULE of a def -/
theorem ok_def {x qual : Str} {st : Stmt} {f : Addr} {fd : FuncData} {N ps : List Str} {k : Nat} {a : ASp} {T : ATS} (F : Fun K x qual st f fd) (S : FnScope N ps (defScope st)) (len : ∀ oo ds Kc, a oo ds Kc → (argS oo ds).length = ps.length)
    (hb : ∀ (cdv : Value) (A : Around) (outer : List Env) (s : Shared) (H : Hp) (E : XK), Room k (A.deeper (envOfC qual (defScope st) s.heap.objs.size f cdv)) → ASs (cxOf CX0 P w K mg base N qual (defScope st) f cdv A outer s H E).nox (defBody st) T)
    (hr : ∀ oo ds Kc, a oo ds Kc → T (adOf oo Kc) (argS oo ds ++ List.replicate (N.length - ps.length) none)) : FnOk P w K mg base CX0 (k + 1) f fd ps (toSp K a) := by
  refine F.ok S (fun vs H Q E h => ?_) (fun cdv A outer s H vs Q E hroom h => ?_)
  · obtain ⟨C, Fz, oo, ds, Kc, hK, I, h, _⟩ := h
    have := I.len
    rw [len _ _ _ h, List.length_map] at this
    exact this.symm
  · refine ⟨cS K T, hb cdv A outer s H E hroom, ?_⟩
    obtain ⟨C, Fz, oo, ds, Kc, hK, I, h, hq⟩ := h
    refine ⟨C, Fz, _, _, hK, start_ok I (len _ _ _ h), hr _ _ _ h, fun F' ρ' σ' H' s1 J k1 => ?_, fun F' ρ' σ' H' v x s1 J k1 => ?_, fun _ _ _ _ _ _ z => z.elim, fun _ _ _ _ _ _ z => z.elim⟩
    · obtain ⟨oo', e1, k2, h0⟩ := fin_ok k1
      exact hq _ _ k2 F' .non H' s1 (back (x := .dat .none) I s1 ⟨J, .non⟩ trivial e1 h0)
    · obtain ⟨hx, k1⟩ := notAli_ok k1
      obtain ⟨oo', e1, k2, h0⟩ := fin_ok k1
      exact hq _ _ k2 F' v H' s1 (back I s1 J hx e1 h0)
end

/-! ### calls -/
def ownO : Option (Option AV) → (Option Nat → OV → Prop) → Prop
  | some (some (.own t o)), k => k t o
  | _, _ => False
theorem ownO_ok {q : Option (Option AV)} {k : Option Nat → OV → Prop} (h : ownO q k) : ∃ t o, q = some (some (.own t o)) ∧ k t o := by
  unfold ownO at h
  split at h
  · exact ⟨_, _, rfl, h⟩
  · exact h.elim
def getO : Option OV → (OV → Prop) → Prop
  | some o, k => k o
  | none, _ => False
def onlyDat : AV → Prop → Prop
  | .dat _, p => p
  | _, _ => False
def callA (a : ASp) : List AV → AS → (AV → AS → Prop) → Prop
  | .ali i :: r, ρ, K => das r fun ds => ownO ρ[i]? fun t o => a (some o) ds fun x oo' => onlyDat x (getO oo' fun o' => K x (ρ.set i (some (.own t o'))))
  | xs, ρ, K => das xs fun ds => a none ds fun x oo' => oo' = none ∧ notAli x (K x ρ)
def aCall (a : ASp) (Ta : ATA) : ATE := fun ρ K => Ta ρ fun xs ρ1 => callA a xs ρ1 K
theorem SOk.callee {C : Fx} {F F' : Hp} {ρ : AS} {σ : St} {H H' : Hp} (I : SOk C F ρ σ H) (s : Same F F') (f : Same F' H') (g : Same H H') (n : ∀ b o, F' b = some o → F b = some o ∨ H b = none) : SOk C F' ρ σ H' := by
  obtain ⟨S, s1, s2, s3⟩ := I.own
  have nF : ∀ i b, S i b → F' b = none := fun i b sb => by
    cases q : F' b with
    | none => rfl
    | some u =>
      obtain ⟨n1, n2, n3⟩ := s2 i b sb
      rcases n b u q with z | z
      · rw [n1] at z; cases z
      · exact absurd z n3
  have hH : ∀ i b, S i b → H' b = H b := fun i b sb => by
    obtain ⟨n1, n2, n3⟩ := s2 i b sb
    cases q : H b with
    | none => exact absurd q n3
    | some u => exact g b u q
  refine ⟨I.len, f, I.fr.trans g, fun b o q => ?_, fun i d q => ?_, S, fun i t o q => ?_, fun i b sb => ?_, s3⟩
  · rcases n b o q with z | z
    · exact I.nf b o z
    · exact .inr (I.bnone z)
  · obtain ⟨v, e1, e2⟩ := I.dat i d q
    exact ⟨v, e1, dp_mono s _ _ e2⟩
  · obtain ⟨a, e1, e2, e3⟩ := s1 i t o q
    exact ⟨a, e1, ho_mono s (fun b sb => hH i b sb) e2, e3⟩
  · obtain ⟨n1, n2, n3⟩ := s2 i b sb
    exact ⟨nF i b sb, n2, by rw [hH i b sb]; exact n3⟩
/-- a fresh owned object of a callee joins the caller's state -/
theorem SOk.join {C C' : Fx} {F : Hp} {ρ ρ2 : AS} {σ σ2 : St} {H H' : Hp} {v : V} {t : Option Nat} {o : OV} (hK : C'.K = C.K) (I : SOk C F ρ σ H') (J : SOk C' F (some (.own t o) :: ρ2) (some v :: σ2) H') (hS : ∀ b, C'.B b = none → C.B b = none) (old : ∀ (i : Nat) (a : Addr) (t : Option Nat) (o : OV), ρ[i]? = some (some (AV.own t o)) → σ[i]? = some (some (V.ref a)) → C'.B a ≠ none)
    (ht : ∀ j, t = some j → C.anc j = C'.anc j) (flat : ∀ a o S, Ho C.K F H' a S o → ∀ b, S b → b = a) : SOk C F (some (.own t o) :: ρ) (some v :: σ) H' := by
  obtain ⟨S, s1, s2, s3⟩ := I.own
  obtain ⟨T, t1, t2, t3⟩ := J.own
  obtain ⟨a, e1, e2, e3⟩ := t1 0 t o rfl
  -- only the slots' own addresses count
  refine ⟨by simp [I.len], I.fz, I.fr, I.nf, fun i d q => ?_, fun i b => match i with | 0 => T 0 b | i + 1 => S i b ∧ ∃ t o, ρ[i]? = some (some (.own t o)), fun i t' o' q => ?_, fun i b sb => ?_, fun i j b si sj => ?_⟩
  · cases i with
    | zero => simp at q
    | succ i => simpa using I.dat i d (by simpa using q)
  · cases i with
    | zero =>
      simp at q
      obtain ⟨rfl, rfl⟩ := q
      exact ⟨a, e1, by rw [← hK]; exact e2, fun j e => (ht j e).trans (e3 j e)⟩
    | succ i =>
      have q : ρ[i]? = some (some (.own t' o')) := by simpa using q
      obtain ⟨c, f1, f2, f3⟩ := s1 i t' o' q
      refine ⟨c, by simpa using f1, ?_, f3⟩
      have : (fun b => S i b ∧ ∃ t o, ρ[i]? = some (some (.own t o))) = S i := by
        funext b
        simp [q]
      show Ho C.K F H' c (fun b => S i b ∧ ∃ t o, ρ[i]? = some (some (.own t o))) o'
      rw [this]
      exact f2
  · cases i with
    | zero =>
      obtain ⟨n1, n2, n3⟩ := t2 0 b sb
      exact ⟨n1, hS b n2, n3⟩
    | succ i => exact s2 i b sb.1
  · have cross : ∀ i, T 0 b → (S i b ∧ ∃ t o, ρ[i]? = some (some (.own t o))) → False := fun i h1 ⟨h2, t', o', q⟩ => by
      obtain ⟨c, f1, f2, f3⟩ := s1 i t' o' q
      have := flat c o' (S i) f2 b h2
      subst this
      exact old i b t' o' q f1 (t2 0 b h1).2.1
    cases i with
    | zero =>
      cases j with
      | zero => rfl
      | succ j => exact (cross j si sj).elim
    | succ i =>
      cases j with
      | zero => exact (cross i sj si).elim
      | succ j => rw [s3 i j b si.1 sj.1]
theorem ho_flat {K : PySem.W.Frag} {F H : Hp} {a : Addr} {S : Addr → Prop} {o : OV} (h : Ho K F H a S o) : ∀ b, S b → b = a := by
  cases o with
  | lst ds => exact fun b sb => (h.1 b).mp sb
theorem das_map : ∀ {ds : List PyData} {vs : List V} {K : PySem.W.Frag} {F : Hp}, DpAll K F vs ds → ∀ (i : Nat) d, (ds.map fun d => some (AV.dat d))[i]? = some (some (.dat d)) → ∃ v, (vs.map some)[i]? = some (some v) ∧ Dp K F v d := fun {ds vs K F} h i d q => by
  rw [List.getElem?_map] at q
  cases e : ds[i]? with
  | none => rw [e] at q; cases q
  | some d' =>
    rw [e] at q
    have : d' = d := by simpa using q
    subst this
    obtain ⟨v, e1, e2⟩ := dpa_get h e
    exact ⟨v, by rw [List.getElem?_map, e1]; rfl, e2⟩
theorem w_callData {K : PySem.W.Frag} {a : ASp} {E : XK} {xs : List AV} {C : Fx} {F : Hp} {ρ : AS} {σ : St} {H : Hp} {vs : List V} {Q : VK} {Kc : AV → AS → Prop} (hK : C.K = K) (I : SOk C F ρ σ H) (ha : ArgsOk C F σ vs xs)
    (h : das xs fun ds => a none ds fun x oo' => oo' = none ∧ notAli x (Kc x ρ)) (q : ∀ F' v x ρ' H', Same F F' → Res C F' ρ' σ H' v x → Kc x ρ' → Q v H') : toSp K a vs H Q E := by
  obtain ⟨ds, hd, h⟩ := das_ok ha h
  refine ⟨⟨C.K, H, F, fun _ => none⟩, F, none, ds, _, hK, ⟨?_, I.fz, Same.refl H, fun b o e => .inl e, fun i d e => ?_, fun _ _ => False, fun i t o e => ?_, fun _ _ z => z.elim, fun _ _ _ z => z.elim⟩, h, ?_⟩
  · simp [argS, dpa_len hd]
  · exact das_map hd i d (by simpa [argS] using e)
  · simp [argS] at e
  · subst hK
    intro x oo' ⟨hoo, k⟩ F' v H' s1 r
    subst hoo
    obtain ⟨hx, k⟩ := notAli_ok k
    have J := r.ok
    have g : Same H H' := J.fr
    have I' : SOk C F' ρ σ H' := I.callee s1 J.fz g fun b o e => J.nf b o e
    refine q F' v x ρ H' s1 ?_ k
    cases x with
    | dat d => exact ⟨I', r.2⟩
    | own t o =>
      have r : SOk ⟨C.K, H, F, fun _ => none⟩ F' (some (.own t o) :: argS none ds) (some v :: vs.map some) H' := r
      refine SOk.join (H := H) (C' := ⟨C.K, H, F, fun _ => none⟩) rfl I' r (fun b hb => I.bnone hb) (fun i a t' o' e1 e2 z => ?_) (fun j e => ?_) fun a o S h => ho_flat h
      · obtain ⟨S, s1, s2, s3⟩ := I.own
        obtain ⟨c, f1, f2, f3⟩ := s1 i t' o' e1
        have : c = a := by rw [e2] at f1; simpa using f1.symm
        subst this
        cases o' with
        | lst ds => exact (s2 i c ((f2.1 c).mpr rfl)).2.2 z
      · obtain ⟨S, s1, s2, s3⟩ := r.own
        obtain ⟨c, f1, f2, f3⟩ := s1 0 t o rfl
        have := f3 j e
        cases this
    | ali i => exact hx.elim
theorem w_callOwn {a : ASp} {E : XK} {i : Nat} {r : List AV} {C : Fx} {F : Hp} {ρ : AS} {σ : St} {H : Hp} {vs : List V} {Q : VK} {Kc : AV → AS → Prop} (I : SOk C F ρ σ H) (ha : ArgsOk C F σ vs (.ali i :: r))
    (h : das r fun ds => ownO ρ[i]? fun t o => a (some o) ds fun x oo' => onlyDat x (getO oo' fun o' => Kc x (ρ.set i (some (.own t o'))))) (q : ∀ F' v x ρ' H', Same F F' → Res C F' ρ' σ H' v x → Kc x ρ' → Q v H') : toSp C.K a vs H Q E := by
  cases ha with
  | @cons v0 _ vs' _ h0 hr =>
  have h0 : σ[i]? = some (some v0) := h0
  obtain ⟨ds, hd, h⟩ := das_ok hr h
  obtain ⟨t, o, e, h⟩ := ownO_ok h
  have I0 := I
  obtain ⟨S, s1, s2, s3⟩ := I.own
  obtain ⟨c, f1, f2, f3⟩ := s1 i t o e
  have : v0 = .ref c := by rw [h0] at f1; simpa using f1
  subst this
  have sc : S i c := by
    cases o with
    | lst ds => exact (f2.1 c).mpr rfl
  obtain ⟨n1, n2, n3⟩ := s2 i c sc
  have hB : ∀ b, (if b = c then none else H b) = none → b = c ∨ H b = none := fun b z => by
    by_cases hb : b = c
    · exact .inl hb
    · rw [if_neg hb] at z
      exact .inr z
  have hBC : ∀ b, (if b = c then none else H b) = none → C.B b = none := fun b z => by
    rcases hB b z with rfl | z
    · exact n2
    · exact I.bnone z
  refine ⟨⟨C.K, fun b => if b = c then none else H b, F, fun j => if j = 0 then some c else none⟩, F, some o, ds, _, rfl, ⟨?_, I.fz, fun b u z => ?_, fun b u z => .inl z, fun j d z => ?_, fun j b => j = 0 ∧ b = c, fun j t' o' z => ?_, fun j b z => ?_, fun j k b z z' => z.1.trans z'.1.symm⟩, h, ?_⟩
  · simp [argS, dpa_len hd]
  · have z : (if b = c then none else H b) = some u := z
    by_cases hb : b = c
    · rw [if_pos hb] at z; cases z
    · rw [if_neg hb] at z; exact z
  · cases j with
    | zero => simp [argS] at z
    | succ j =>
      obtain ⟨v, g1, g2⟩ := das_map hd j d (by simpa [argS] using z)
      exact ⟨v, by simpa using g1, g2⟩
  · obtain ⟨rfl, rfl, e2⟩ := argS_own z
    cases e2
    refine ⟨c, rfl, ?_, fun j ej => ?_⟩
    · cases o with
      | lst xs => exact ⟨fun b => by simp, f2.2⟩
    · cases ej
      show (if (0 : Nat) = 0 then some c else none) = some c
      rw [if_pos rfl]
  · obtain ⟨rfl, rfl⟩ := z
    exact ⟨n1, by show (if b = b then none else H b) = none; rw [if_pos rfl], n3⟩
  · intro x oo' k F' v H' w1 r
    cases x with
    | own _ _ => exact k.elim
    | ali _ => exact k.elim
    | dat d =>
    have k : getO oo' fun o' => Kc (.dat d) (ρ.set i (some (.own t o'))) := k
    cases oo' with
    | none => exact k.elim
    | some o' =>
      have k : Kc (.dat d) (ρ.set i (some (.own t o'))) := k
      have J := r.ok
      have g : ∀ b u, b ≠ c → H b = some u → H' b = some u := fun b u hb z => J.fr b u (by show (if b = c then none else H b) = some u; rw [if_neg hb]; exact z)
      obtain ⟨T, t1, t2, t3⟩ := J.own
      obtain ⟨c', g1, g2, g3⟩ := t1 0 (some 0) o' rfl
      have hc : c' = c := by simpa using g1.symm
      subst hc
      have tc : ∀ b, T 0 b ↔ b = c' := by
        cases o' with
        | lst xs => exact g2.1
      have nf : ∀ b u, F' b = some u → F b = some u ∨ (b = c' ∨ H b = none) := fun b u z => by
        rcases J.nf b u z with z | z
        · exact .inl z
        · exact .inr (hB b z)
      have Fc : F' c' = none := (t2 0 c' ((tc c').mpr rfl)).1
      have nS : ∀ j b, S j b → j ≠ i → b ≠ c' := fun j b sb hj z => by
        subst z
        exact hj (s3 _ _ _ sb sc)
      -- the caller's state behind the call
      have I' : SOk C F' (ρ.set i (some (.own t o'))) σ H' := by
        refine ⟨by simp [I.len], J.fz, fun b u z => g b u (fun z2 => by subst z2; rw [n2] at z; cases z) (I.fr b u z), fun b u z => ?_, fun j d z => ?_, fun j b => S j b ∧ (j = i → b = c'), fun j t' oj z => ?_, fun j b z => ?_, fun j k b z z' => s3 j k b z.1 z'.1⟩
        · rcases nf b u z with z | z | z
          · exact I.nf b u z
          · subst z
            exact .inr n2
          · exact .inr (I.bnone z)
        · rw [List.getElem?_set] at z
          split at z
          · split at z
            · simp at z
            · cases z
          · obtain ⟨v, z1, z2⟩ := I.dat j d z
            exact ⟨v, z1, dp_mono w1 _ _ z2⟩
        · rw [List.getElem?_set] at z
          split at z
          · rename_i hij
            subst hij
            split at z
            · simp at z
              obtain ⟨rfl, rfl⟩ := z
              refine ⟨c', f1, ?_, f3⟩
              cases o' with
              | lst xs =>
                refine ⟨fun b => ⟨fun z => z.2 rfl, fun z => ?_⟩, g2.2⟩
                subst z
                exact ⟨sc, fun _ => rfl⟩
            · cases z
          · rename_i hij
            have hji : j ≠ i := fun z => hij z.symm
            obtain ⟨cj, z1, z2, z3⟩ := s1 j t' oj z
            refine ⟨cj, z1, ?_, z3⟩
            have e1 : (fun b => S j b ∧ (j = i → b = c')) = S j := by
              funext b
              simp [hji]
            show Ho C.K F' H' cj (fun b => S j b ∧ (j = i → b = c')) oj
            rw [e1]
            refine ho_mono w1 (fun b sb => ?_) z2
            obtain ⟨_, _, m3⟩ := s2 j b sb
            cases q : H b with
            | none => exact absurd q m3
            | some u => exact g b u (nS j b sb hji) q
        · obtain ⟨sb, sb2⟩ := z
          obtain ⟨m1, m2, m3⟩ := s2 j b sb
          refine ⟨?_, m2, ?_⟩
          · cases q : F' b with
            | none => rfl
            | some u =>
              rcases nf b u q with z | z | z
              · rw [m1] at z; cases z
              · subst z
                rw [Fc] at q
                cases q
              · exact absurd z m3
          · by_cases hj : j = i
            · rw [sb2 hj]
              exact (t2 0 c' ((tc c').mpr rfl)).2.2
            · cases q : H b with
              | none => exact absurd q m3
              | some u => rw [g b u (nS j b sb hj) q]; simp
      exact q F' v (.dat d) _ H' w1 ⟨I', r.2⟩ k
theorem w_call {K : PySem.W.Frag} {a : ASp} {E : XK} {Ta : ATA} : ∀ σ H Q, cE K (aCall a Ta) σ H Q → tCall (toSp K a) [] E (cA K Ta) σ H Q := fun σ H Q ⟨C, F, ρ, Kc, hK, I, h, q⟩ => by
  refine ⟨C, F, ρ, _, hK, I, h, fun F1 vs xs ρ1 H1 s1 I1 h1 k1 => ?_⟩
  show toSp K a (vs ++ []) H1 Q E
  rw [List.append_nil]
  have q' : ∀ F' v x ρ' H', Same F1 F' → Res C F' ρ' σ H' v x → Kc x ρ' → Q v H' := fun F' v x ρ' H' s2 r k => q F' v x ρ' H' (s1.trans s2) r k
  cases xs with
  | nil => exact w_callData hK I1 h1 k1 q'
  | cons x r =>
    cases x with
    | dat d => exact w_callData hK I1 h1 k1 q'
    | own t o => exact w_callData hK I1 h1 k1 q'
    | ali i =>
      subst hK
      exact w_callOwn I1 h1 k1 q'
section
variable {X : Cx} {k : Nat} {f : Addr} {fd : FuncData} {ps : List Str} {a : ASp} {x : Str} {p pos : Pos} {e : Expr} {es : List Expr} {Ta : ATA}
theorem e_call (F : FnOk X.prog X.w X.K X.mg X.base CX0 k f fd ps (toSp X.K a)) (hr : Room k X.A) (hg : Gl X x) (hm : X.mg x = some (.ref f)) (hk : PySem.W.keepIn X.K (.ref f) = true) (hb : Binds X.K fd ps [])
    (ha : AA X (e :: es) Ta) (hdb : (x == ("__debug__" : Str)) = false := by decide) (he : starEach (e :: es) X.env = (false, eval e X.env) :: starEach es X.env := by rfl) (hpl : (backTo pos (starEach es X.env)).any (·.1) = false := by rfl) :
    AE X (.Call (.Name x p) (e :: es) [] pos) (aCall a Ta) := pe_of (pe_call F hr hg hm hk hb .nil pass0 ha hdb he hpl) w_call
end
end Ab

set_option maxHeartbeats 4000000
/-! Ab8: truth, + of data, repeated lists, tuple(range). -/
namespace Ab
open PySem PySem.Spec PyProof.Rows L2

/-! truth of any value -/
def truS (ρ : AS) : AV → (Bool → Prop) → Prop
  | .dat .none, k => k false
  | .dat (.bool b), k => k b
  | .dat (.int i), k => k (i != 0)
  | x, k => cont ρ x fun _ ds => k (!ds.isEmpty)
def aTru (T : ATE) : ATT := fun ρ K => T ρ fun x ρ' => arg x fun y => truS ρ' y fun b => K b ρ'
theorem isEmpty_dp {K : PySem.W.Frag} {F : Hp} {vs : List V} {ds : List PyData} (h : DpAll K F vs ds) : vs.isEmpty = ds.isEmpty := by
  cases h <;> rfl
section
variable {X : Cx} {e a b : Expr} {Te Ta Tb : ATE} {pos : Pos}
theorem t_truth (ha : AE X e Te) (he : ∀ whole, isTrue e X.env whole = (do let v ← whole; standAt e.pos; holding [v] (truthy v)) := by exact fun _ => rfl) : AT X e (aTru Te) := pt_of (pt_truth ha he) fun σ H Q ⟨C, F, ρ, Kc, hK, I, h, q⟩ => by
  refine ⟨C, F, ρ, _, hK, I, h, fun F1 v x ρ1 H1 s1 r1 k1 => ?_⟩
  obtain ⟨F2, y, s2, I2, hy, k2⟩ := r1.arg k1
  have seqs : cont ρ1 y (fun _ ds => Kc (!ds.isEmpty) ρ1) → ∃ k, TruV X.K v H1 k ∧ Q k H1 := fun k2 => by
    obtain ⟨a, vs, b, ds, rfl, h3, _, h4, k3⟩ := hy.cont I2 k2
    rw [hK] at h3
    refine ⟨!ds.isEmpty, ?_, q F2 _ ρ1 H1 (s1.trans s2) I2 k3⟩
    cases b with
    | true => exact .inl ⟨vs, h3, by rw [isEmpty_dp h4]⟩
    | false => exact .inr (.inl ⟨vs, h3, by rw [isEmpty_dp h4]⟩)
  cases y with
  | dat d =>
    have hy' : Dp C.K F2 v d := hy
    cases hy' with
    | non => exact ⟨false, rfl, q F2 _ ρ1 H1 (s1.trans s2) I2 k2⟩
    | bl b => exact ⟨b, rfl, q F2 _ ρ1 H1 (s1.trans s2) I2 k2⟩
    | int i => exact ⟨i != 0, rfl, q F2 _ ρ1 H1 (s1.trans s2) I2 k2⟩
    | str x => exact seqs k2
    | lst hs ha => exact seqs k2
    | tup hs ha => exact seqs k2
  | own t o => exact seqs k2
  | ali i => exact seqs k2

/-! + : ints, tuples -/
def rCatT2 (K : PySem.W.Frag) : R2 := fun x y H Q => ∃ a b xs ys, x = .ref a ∧ y = .ref b ∧ SqT K H a xs ∧ SqT K H b ys ∧ xs.length + ys.length ≤ sizeLine ∧ (ys = [] → Q (.ref a) H) ∧ (xs = [] → Q (.ref b) H) ∧ (∀ p, H p = none → Q (.ref p) (upd H p (.tup (xs ++ ys))))
end
section
open PySem.SeqAt
open PySem.AutoSeq1 (wpAny_loadPart')
open PySem.MeetsSeq PySem.MeetsSeq2 PySem.MeetsSeq3
theorem tuple_add_nil (l b : Addr) (its2 : Array Value) (n n2 : Nat) (dd dd2 : Option Addr) (sl sl2 : Array (Option Value)) :
    Meets (Builtin.«tuple.__add__» ⟨[.ref l, .ref b], []⟩)
      (fun _ R s => s.heap.get? l = some { cls := .type "tuple", dict := dd, data := .seq #[] n, slots := sl } ∧ s.heap.get? b = some { cls := .type "tuple", dict := dd2, data := .seq its2 n2, slots := sl2 } ∧
        R (.ok (.ret (.ref b))) s) :=
  .of_wp fun prog w A R s h => by
    obtain ⟨hp, g, d, tk, os⟩ := s; obtain ⟨hl, hb, h⟩ := h
    have f2 := AutoSeq1.sub_tuple_tuple
    wp_walk using wpAny_loadPart' hl, wpAny_loadPart' hb
    all_goals first | exact h | (exact ⟨_, rfl, h⟩) | trace_state
end

section
variable {X : Cx} {e a b : Expr} {Te Ta Tb : ATE} {pos : Pos}
theorem op_catT2 : OpR X (binaryOp .Add) (rCatT2 X.K) := by
  intro pins s σ H x y v u Q I rx ry h
  obtain ⟨a, b, xs, ys, rfl, rfl, ha, hb, hz, q1, q2, q3⟩ := h
  cases xs with
  | cons x xs => exact op_catT pins s σ H _ _ v u Q I rx ry ⟨a, b, x :: xs, ys, rfl, rfl, ha, hb, by simp, hz, q1, fun _ => q3⟩
  | nil =>
    cases rx
    cases ry
    obtain ⟨its, r1, p1, _⟩ := I.tuple ha
    obtain ⟨its2, r2, p2, _⟩ := I.tuple hb
    cases r1
    obtain ⟨⟨cls, dd, data, sl⟩, ho, hc, n, hd⟩ := id p1
    obtain ⟨⟨cls2, dd2, data2, sl2⟩, ho2, hc2, n2, hd2⟩ := id p2
    simp only at hc hd hc2 hd2
    subst hc hd hc2 hd2
    exact concat_meets ⟨_, ho, rfl⟩ ⟨_, ho2, rfl⟩ noFill_tuple_add seq_tuple_add PySem.F.slot_tuple_add PySem.F.entry_tuple_add (PySem.F.args_tuple_add_2 _ _)
      (tuple_add_nil a b its2.toArray n n2 dd dd2 sl sl2) ⟨ho, ho2, .ref b, H, I, rfl, q2 rfl⟩
def rAddU (K : PySem.W.Frag) : R2 := fun x y H Q => rI0 (fun i j => .int (i + j)) x y H Q ∨ rCatT2 K x y H Q
theorem op_addU : OpR X (binaryOp .Add) (rAddU X.K) := by
  intro pins s σ H x y v u Q I rx ry h
  rcases h with h | h
  · exact op_add pins s σ H x y v u Q I rx ry h
  · exact op_catT2 pins s σ H x y v u Q I rx ry h
def sAddU : S2
  | .int i, .int j, k => k (.int (i + j))
  | .tuple xs, .tuple ys, k => xs.length + ys.length ≤ sizeLine ∧ k (.tuple (xs ++ ys))
  | _, _, _ => False
theorem dr_addU {K : PySem.W.Frag} : DR2 K (rAddU K) sAddU := fun C F ρ σ H x y dx dy Q Kd hK I hx hy h q => by
  cases hx with
  | int i =>
    cases hy with
    | int j => exact .inl ⟨i, j, rfl, rfl, q F _ _ H (Same.refl F) I (.int _) h⟩
    | _ => exact h.elim
  | tup hs ha =>
    cases hy with
    | tup hs2 ha2 =>
      obtain ⟨hz, h⟩ := h
      subst hK
      refine .inr ⟨_, _, _, _, rfl, rfl, same_t I.fz hs, same_t I.fz hs2, by rw [dpa_len ha, dpa_len ha2]; exact hz, fun e => ?_, fun e => ?_, fun p hp => ?_⟩
      · subst e
        cases ha2
        refine q F _ _ H (Same.refl F) I ?_ h
        rw [List.append_nil]
        exact .tup hs ha
      · subst e
        cases ha
        exact q F _ _ H (Same.refl F) I (.tup hs2 ha2) h
      · exact q _ _ _ _ (same_upd' (I.fnone hp)) (I.imm hp) (dp_tup upd_same (dpa_mono (same_upd' (I.fnone hp)) _ _ (dpa_app ha ha2))) h
    | _ => exact h.elim
  | _ => exact h.elim

/-! xs * k, xs a new list -/
theorem SOk.freeze' {C : Fx} {F : Hp} {ρ : AS} {σ : St} {H : Hp} {v : V} {t : Option Nat} {ds : List PyData} (I : SOk C F (some (.own t (.lst ds)) :: ρ) (some v :: σ) H) : ∃ F' a vs, Same F F' ∧ SOk C F' ρ σ H ∧ v = .ref a ∧ F' a = some (.lst vs) ∧ DpAll C.K F' vs ds := by
  obtain ⟨F', s, J, hd⟩ := I.freeze
  obtain ⟨a, vs, e1, e2, e3⟩ := I.at_own (i := 0) rfl
  have hv : v = .ref a := by simpa using e1
  have J2 := I.tail
  obtain ⟨S, s1, s2, s3⟩ := I.own
  obtain ⟨a', g1, ⟨g2, vs', g3, g4⟩, _⟩ := s1 0 t (.lst ds) rfl
  have : a' = a := by rw [e1] at g1; simpa using g1.symm
  subst this
  have sa : S 0 a' := (g2 a').mpr rfl
  obtain ⟨n1, n2, n3⟩ := s2 0 a' sa
  have e : Same F (upd F a' (.lst vs)) := same_upd' n1
  refine ⟨upd F a' (.lst vs), a', vs, e, ?_, hv, upd_same, dpa_mono e _ _ e3⟩
  refine ⟨J2.len, fun b u q => ?_, J2.fr, fun b u q => ?_, fun i d q => ?_, fun i b => S (i + 1) b, fun i t' o q => ?_, fun i b sb => ?_, fun i j b si sj => ?_⟩
  · by_cases hb : b = a'
    · subst hb
      rw [upd_same] at q
      cases q
      exact e2
    · rw [upd_ne hb] at q
      exact I.fz b u q
  · by_cases hb : b = a'
    · subst hb
      exact .inr n2
    · rw [upd_ne hb] at q
      exact I.nf b u q
  · obtain ⟨w, q1, q2⟩ := J2.dat i d q
    exact ⟨w, q1, dp_mono e _ _ q2⟩
  · obtain ⟨c, f1, f2, f3⟩ := s1 (i + 1) t' o (by simpa using q)
    exact ⟨c, by simpa using f1, ho_mono e (fun _ _ => rfl) f2, f3⟩
  · have hb : b ≠ a' := fun z => by
      subst z
      have := s3 _ _ _ sb sa
      omega
    rw [upd_ne hb]
    exact s2 (i + 1) b sb
  · have := s3 _ _ b si sj
    omega
theorem dpa_rep {K : PySem.W.Frag} {F : Hp} {vs : List V} {ds : List PyData} (h : DpAll K F vs ds) : ∀ k : Nat, DpAll K F (List.replicate k vs).flatten (List.replicate k ds).flatten
  | 0 => .nil
  | k + 1 => by
    rw [List.replicate_succ, List.replicate_succ, List.flatten_cons, List.flatten_cons]
    exact dpa_app h (dpa_rep h k)
def aRep (Ta Tb : ATE) : ATE := fun ρ K => Ta ρ fun x ρ1 => ownL (some (some x)) fun _ ds => Tb ρ1 fun y ρ2 => dd y fun dy => iD dy fun k => -(2 ^ 63) ≤ k ∧ k < 2 ^ 63 ∧ ds.length * k.toNat ≤ sizeLine ∧ K (.own none (.lst (List.replicate k.toNat ds).flatten)) ρ2
theorem e_rep (ha : AE X a Ta) (hb : AE X b Tb) : AE X (.BinOp a .Mult b pos) (aRep Ta Tb) := pe_of (pe_op op_rep ha hb) fun σ H Q ⟨C, F, ρ, Kc, hK, I, h, q⟩ => by
  refine ⟨C, F, ρ, _, hK, I, h, fun F1 v x ρ1 H1 s1 r1 k1 => ?_⟩
  obtain ⟨t, ds, hx, k2⟩ := ownL_ok k1
  have hx : x = .own t (.lst ds) := by simpa using hx
  subst hx
  obtain ⟨F2, p, vs, s2, I2, rfl, hp, hd⟩ := SOk.freeze' r1
  refine ⟨C, F2, ρ1, _, hK, I2, k2, fun F3 w y ρ2 H2 s3 r3 k3 => ?_⟩
  obtain ⟨F4, dz, s4, I4, hz, k4⟩ := r3.data k3
  obtain ⟨k, rfl, rfl, h1, h2, h3, k5⟩ := iD_ok hz k4
  have hp4 : H2 p = some (.lst vs) := I4.fz p _ (s4 p _ (s3 p _ hp))
  have hd4 := dpa_mono (s3.trans s4) _ _ hd
  exact ⟨p, k, vs, rfl, rfl, hp4, h1, h2, by rw [dpa_len hd4]; exact h3, fun l hl => q F4 _ (.own none (.lst _)) ρ2 _ (((s1.trans s2).trans s3).trans s4) (I4.newOwn hl (dpa_rep hd4 _)) k5⟩

/-! tuple(range(n)), list(range(n)) -/
theorem dpa_rg {K : PySem.W.Frag} {F : Hp} (n : Int) : DpAll K F (rgV 0 n) (rangeD 0 n.toNat) := by
  unfold rgV rangeD
  rw [Int.sub_zero]
  generalize List.range n.toNat = l
  induction l with
  | nil => exact .nil
  | cons k l ih => exact .cons (.int _) ih
def aRgT (mk : List PyData → AV) (Ta : ATE) : ATE := fun ρ K => Ta ρ fun x ρ1 => dd x fun d => iD d fun n => -(2 ^ 62) ≤ n ∧ n ≤ 16777216 ∧ K (mk (rangeD 0 n.toNat)) ρ1
theorem e_tupRg {p p2 pos pos2 : Pos} (hm : X.mg "tuple" = none) (hm2 : X.mg "range" = none) (ha : AE X a Ta) (hg : Gl X "tuple" := by rfl) (hg2 : Gl X "range" := by rfl) (hc : X.calm = true := by rfl) (na : starEach [a] X.env = (false, eval a X.env) :: starEach [] X.env := by rfl)
    (nb : starEach [.Call (.Name "range" p2) [a] [] pos2] X.env = (false, eval (.Call (.Name "range" p2) [a] [] pos2) X.env) :: starEach [] X.env := by rfl) :
    AE X (.Call (.Name "tuple" p) [.Call (.Name "range" p2) [a] [] pos2] [] pos) (aRgT (fun ds => .dat (.tuple ds)) Ta) := pe_of (pe_tupRg hc hg hm (prg_1 hg2 hm2 ha na) nb) fun σ H Q ⟨C, F, ρ, Kc, hK, I, h, q⟩ => by
  refine ⟨C, F, ρ, _, hK, I, h, fun F1 v x ρ1 H1 s1 r1 k1 => ?_⟩
  obtain ⟨F2, d, s2, I2, hd, k2⟩ := r1.data k1
  obtain ⟨n, rfl, rfl, h1, h2, k3⟩ := iD_ok hd k2
  refine ⟨n, rfl, ⟨by omega, by omega, h1, by omega, by omega⟩, fun l hl => ?_⟩
  have s3 : Same F2 (upd F2 l (.tup (rgV 0 n))) := same_upd' (I2.fnone hl)
  exact q _ _ (.dat _) ρ1 _ ((s1.trans s2).trans s3) ⟨I2.imm hl, dp_tup upd_same (dpa_rg n)⟩ k3
theorem e_lstRg {p p2 pos pos2 : Pos} (hm : X.mg "list" = none) (hm2 : X.mg "range" = none) (ha : AE X a Ta) (hg : Gl X "list" := by rfl) (hg2 : Gl X "range" := by rfl) (hc : X.calm = true := by rfl) (na : starEach [a] X.env = (false, eval a X.env) :: starEach [] X.env := by rfl)
    (nb : starEach [.Call (.Name "range" p2) [a] [] pos2] X.env = (false, eval (.Call (.Name "range" p2) [a] [] pos2) X.env) :: starEach [] X.env := by rfl) :
    AE X (.Call (.Name "list" p) [.Call (.Name "range" p2) [a] [] pos2] [] pos) (aRgT (fun ds => .own none (.lst ds)) Ta) := pe_of (pe_listRg hc hg hm (prg_1 hg2 hm2 ha na) nb) fun σ H Q ⟨C, F, ρ, Kc, hK, I, h, q⟩ => by
  refine ⟨C, F, ρ, _, hK, I, h, fun F1 v x ρ1 H1 s1 r1 k1 => ?_⟩
  obtain ⟨F2, d, s2, I2, hd, k2⟩ := r1.data k1
  obtain ⟨n, rfl, rfl, h1, h2, k3⟩ := iD_ok hd k2
  refine ⟨n, rfl, ⟨by omega, by omega, h1, by omega, by omega⟩, fun l hl => ?_⟩
  exact q _ _ (.own none (.lst _)) ρ1 _ (s1.trans s2) (I2.newOwn hl (dpa_rg n)) k3
theorem s_unp2 {tg : Expr} {is : List Nat} {G : ATG} (he : AE X e Te) (hg : AG X tg is G) (hs : swapsWithSole [tg] e pos.line X.env = pure false := by rfl) (hw : swappedStores [tg] e X.env = pure none := by rfl) (h1 : (assignEach [tg] X.env).map (·.2) = [assign tg X.env] := by rfl) : AStm X (.Assign [tg] e pos) (aUnp Te G) := s_unp he hg (ps_asg he hg hs hw h1)
end
end Ab

set_option maxHeartbeats 4000000
/-! Ab9: reading loops and comprehensions; data that encode plain lists. -/
namespace Ab
open PySem PySem.Spec PyProof.Rows L2

theorem br_true {A B : Prop} : br true A B = A := by unfold br; simp
theorem br_false {A B : Prop} : br false A B = B := by unfold br; simp
/-- the tests' values together -/
theorem br_and {a b : Bool} {A B : Prop} (h : br (a && b) A B) : br a (br b A B) B := by
  cases a <;> cases b <;> simpa [br] using h
theorem br_or {a b : Bool} {A B : Prop} (h : br (a || b) A B) : br a A (br b A B) := by
  cases a <;> cases b <;> simpa [br] using h
theorem br_not {a : Bool} {A B : Prop} (h : br a B A) : br (!a) A B := by
  cases a <;> simpa [br] using h

section
variable {α : Type} {enc : α → PyData} {G : ATG} {T : ATS} {A : AD} {U : ATT} {Te : ATE} {vs need : List Nat} {ok : AS → Prop}
theorem for_inv (I : List α → AS → Prop) {xs : List α} {ρ : AS} (h0 : I [] ρ)
    (hs : ∀ pre x post, xs = pre ++ x :: post → ∀ ρ, I pre ρ → ∀ Kn : AS → Prop, (∀ ρ', I (pre ++ [x]) ρ' → Kn ρ') → G (enc x) ρ fun ρ1 => T { A with nx := Kn, ct := Kn, bk := A.nx } ρ1) (hd : ∀ ρ', I xs ρ' → A.nx ρ') : forRun G T (xs.map enc) A ρ := by
  have go : ∀ post pre ρ, xs = pre ++ post → I pre ρ → forRun G T (post.map enc) A ρ := by
    intro post
    induction post with
    | nil =>
      intro pre ρ e i
      rw [List.append_nil] at e
      subst e
      exact hd ρ i
    | cons x post ih =>
      intro pre ρ e i
      exact hs pre x post e ρ i _ fun ρ' i' => ih (pre ++ [x]) ρ' (by rw [e]; simp) i'
  exact go xs [] ρ rfl h0
theorem lc_inv (I : List α → List PyData → AS → Prop) {xs : List α} {ρ : AS} {K : List PyData → AS → Prop} (h0 : I [] [] ρ) (hl : xs.length < sizeLine) (hok : ∀ pre acc ρ, I pre acc ρ → ok ρ ∧ freeOf ρ need vs)
    (hs : ∀ pre x post, xs = pre ++ x :: post → ∀ acc ρ, I pre acc ρ → ∀ (Ka : PyData → AS → Prop) (Ks : AS → Prop), (∀ dy ρ', I (pre ++ [x]) (acc ++ [dy]) ρ' → Ka dy ρ') → (∀ ρ', I (pre ++ [x]) acc ρ' → Ks ρ') → turn G U Te vs (enc x) ρ Ka Ks)
    (hd : ∀ acc ρ', I xs acc ρ' → K acc ρ') : lcRun G U Te vs need ok (xs.map enc) [] ρ K := by
  have go : ∀ post pre acc ρ, xs = pre ++ post → acc.length ≤ pre.length → I pre acc ρ → lcRun G U Te vs need ok (post.map enc) acc ρ K := by
    intro post
    induction post with
    | nil =>
      intro pre acc ρ e _ i
      rw [List.append_nil] at e
      subst e
      exact ⟨(hok _ _ _ i).1, hd acc ρ i⟩
    | cons x post ih =>
      intro pre acc ρ e hz i
      have e2 : xs = (pre ++ [x]) ++ post := by rw [e]; simp
      have hlt : pre.length < xs.length := by rw [e]; simp
      refine ⟨(hok _ _ _ i).1, (hok _ _ _ i).2, hs pre x post e acc ρ i _ _ (fun dy ρ' i' => ⟨by omega, ih (pre ++ [x]) (acc ++ [dy]) ρ' e2 (by simp; omega) i'⟩) fun ρ' i' => ih (pre ++ [x]) acc ρ' e2 (by simp; omega) i'⟩
  exact go xs [] [] ρ rfl (Nat.le_refl _) h0
/-- a comprehension that changes nothing -/
theorem lc_pure (p : α → Bool) (f : α → PyData) {xs : List α} {ρ : AS} {K : List PyData → AS → Prop} (h0 : ok ρ) (hf : freeOf ρ need vs) (hl : xs.length < sizeLine)
    (ht : ∀ x ∈ xs, ∀ (Ka : PyData → AS → Prop) (Ks : AS → Prop), (p x = true → Ka (f x) ρ) → (p x = false → Ks ρ) → turn G U Te vs (enc x) ρ Ka Ks) (hk : K ((xs.filter p).map f) ρ) : lcRun G U Te vs need ok (xs.map enc) [] ρ K := by
  refine lc_inv (fun pre acc ρ' => ρ' = ρ ∧ acc = (pre.filter p).map f) ⟨rfl, rfl⟩ hl (fun pre acc ρ' h => by rw [h.1]; exact ⟨h0, hf⟩) (fun pre x post e acc ρ' ⟨e1, e2⟩ Ka Ks ka ks => ?_) fun acc ρ' ⟨e1, e2⟩ => ?_
  · subst e1
    subst e2
    refine ht x (by rw [e]; simp) Ka Ks (fun hp => ka _ _ ⟨rfl, ?_⟩) fun hp => ks _ ⟨rfl, ?_⟩
    · simp [List.filter_append, hp]
    · simp [List.filter_append, hp]
  · subst e1
    subst e2
    exact hk
/-- .. without a test -/
theorem lc_map (f : α → PyData) {xs : List α} {ρ : AS} {K : List PyData → AS → Prop} (h0 : ok ρ) (hf : freeOf ρ need vs) (hl : xs.length < sizeLine)
    (ht : ∀ x ∈ xs, ∀ (Ka : PyData → AS → Prop) (Ks : AS → Prop), Ka (f x) ρ → turn G U Te vs (enc x) ρ Ka Ks) (hk : K (xs.map f) ρ) : lcRun G U Te vs need ok (xs.map enc) [] ρ K :=
  lc_pure (fun _ => true) f h0 hf hl (fun x hx Ka Ks ka _ => ht x hx Ka Ks (ka rfl)) (by rw [List.filter_eq_self.mpr (fun _ _ => rfl)]; exact hk)
end

/-! ### data of plain values -/
def Faith {α : Type} [DecidableEq α] (enc : α → PyData) : Prop := ∀ a b, PyData.eqv (enc a) (enc b) = decide (a = b)
section
variable {α : Type} [DecidableEq α] {enc : α → PyData}
theorem faith_int : Faith PyData.int := fun a b => by simp only [PyData.eqv]; exact PySem.W.beq_decide a b
theorem faith_all (h : Faith enc) : ∀ xs ys : List α, PyData.eqvAll (xs.map enc) (ys.map enc) = decide (xs = ys)
  | [], [] => by simp [PyData.eqvAll]
  | [], _ :: _ => by simp [PyData.eqvAll]
  | _ :: _, [] => by simp [PyData.eqvAll]
  | x :: xs, y :: ys => by
    simp only [List.map_cons, PyData.eqvAll, h x y, faith_all h xs ys]
    by_cases e1 : x = y <;> by_cases e2 : xs = ys <;> simp [e1, e2]
theorem faith_tup (h : Faith enc) : Faith fun xs : List α => PyData.tuple (xs.map enc) := fun xs ys => by
  show PyData.eqv (.tuple _) (.tuple _) = _
  rw [PyData.eqv]
  exact faith_all h xs ys
theorem faith_lst (h : Faith enc) : Faith fun xs : List α => PyData.list (xs.map enc) := fun xs ys => by
  show PyData.eqv (.list _) (.list _) = _
  rw [PyData.eqv]
  exact faith_all h xs ys
theorem faith_any (h : Faith enc) (x : α) : ∀ ys : List α, ((ys.map enc).any fun y => PyData.eqv y (enc x)) = decide (x ∈ ys)
  | [] => by simp
  | y :: ys => by
    simp only [List.map_cons, List.any_cons, h y x, faith_any h x ys]
    by_cases e : x = y
    · simp [e]
    · have e' : ¬ y = x := fun z => e z.symm
      simp [e, e']
theorem depthAll_le {f : α → PyData} {n : Nat} (h : ∀ a, (f a).depth ≤ n) : ∀ xs : List α, PyData.depthAll (xs.map f) ≤ n
  | [] => Nat.zero_le _
  | x :: xs => by
    rw [List.map_cons, PyData.depthAll]
    exact Nat.max_le.mpr ⟨h x, depthAll_le h xs⟩
theorem depth_int (i : Int) : (PyData.int i).depth = 0 := rfl
theorem depth_tup {f : α → PyData} {n : Nat} (h : ∀ a, (f a).depth ≤ n) (xs : List α) : (PyData.tuple (xs.map f)).depth ≤ n + 1 := by
  rw [PyData.depth]
  exact Nat.succ_le_succ (depthAll_le h xs)
theorem depth_lst {f : α → PyData} {n : Nat} (h : ∀ a, (f a).depth ≤ n) (xs : List α) : (PyData.list (xs.map f)).depth ≤ n + 1 := by
  rw [PyData.depth]
  exact Nat.succ_le_succ (depthAll_le h xs)
theorem sIn_of (h : Faith enc) {n : Nat} (hd : ∀ a, (enc a).depth ≤ n) (hn : n ≤ 50) {b : Bool} {x : α} {ys : List α} {k : PyData → Prop} (hk : k (.bool (decide (x ∈ ys)))) : sIn (enc x) b (ys.map enc) k :=
  ⟨Nat.le_trans (Nat.min_le_right _ _) (Nat.le_trans (hd x) hn), by rw [faith_any h]; exact hk⟩
theorem sNotIn_of (h : Faith enc) {n : Nat} (hd : ∀ a, (enc a).depth ≤ n) (hn : n ≤ 50) {b : Bool} {x : α} {ys : List α} {k : PyData → Prop} (hk : k (.bool (!decide (x ∈ ys)))) : sNotIn (enc x) b (ys.map enc) k :=
  ⟨Nat.le_trans (Nat.min_le_right _ _) (Nat.le_trans (hd x) hn), by rw [faith_any h]; exact hk⟩
theorem sIn_int {b : Bool} {x : Int} {ys : List Int} {k : PyData → Prop} : sIn (.int x) b (ys.map PyData.int) k = k (.bool (decide (x ∈ ys))) := by
  unfold sIn
  rw [faith_any faith_int, depth_int, Nat.min_zero]
  simp
theorem sNotIn_int {b : Bool} {x : Int} {ys : List Int} {k : PyData → Prop} : sNotIn (.int x) b (ys.map PyData.int) k = k (.bool (!decide (x ∈ ys))) := by
  unfold sNotIn
  rw [faith_any faith_int, depth_int, Nat.min_zero]
  simp
theorem sEq_int {a b : Int} {k : PyData → Prop} : sEq (.int a) (.int b) k = k (.bool (decide (a = b))) := by
  unfold sEq
  rw [faith_int, depth_int]
  simp
theorem sNe_int {a b : Int} {k : PyData → Prop} : sNe (.int a) (.int b) k = k (.bool (!decide (a = b))) := by
  unfold sNe
  rw [faith_int, depth_int]
  simp
theorem sEq_bool {a b : Bool} {k : PyData → Prop} : sEq (.bool a) (.bool b) k = k (.bool (a == b)) := by
  unfold sEq
  rw [show (PyData.bool a).depth = 0 from rfl]
  simp [PyData.eqv]
theorem sNe_bool {a b : Bool} {k : PyData → Prop} : sNe (.bool a) (.bool b) k = k (.bool (!(a == b))) := by
  unfold sNe
  rw [show (PyData.bool a).depth = 0 from rfl]
  simp [PyData.eqv]
theorem sEq_str {a b : Str} {k : PyData → Prop} : sEq (.str a) (.str b) k = k (.bool (decide (a = b))) := by
  unfold sEq
  rw [show (PyData.str a).depth = 0 from rfl]
  simp [PyData.eqv, PySem.W.beq_decide]
theorem sEq_of (h : Faith enc) {n : Nat} (hd : ∀ a, (enc a).depth ≤ n) (hn : n ≤ 50) {x y : α} {k : PyData → Prop} (hk : k (.bool (decide (x = y)))) : sEq (enc x) (enc y) k :=
  ⟨Nat.le_trans (Nat.min_le_left _ _) (Nat.le_trans (hd x) hn), by rw [h]; exact hk⟩
theorem sNe_of (h : Faith enc) {n : Nat} (hd : ∀ a, (enc a).depth ≤ n) (hn : n ≤ 50) {x y : α} {k : PyData → Prop} (hk : k (.bool (!decide (x = y)))) : sNe (enc x) (enc y) k :=
  ⟨Nat.le_trans (Nat.min_le_left _ _) (Nat.le_trans (hd x) hn), by rw [h]; exact hk⟩
end
theorem small_len {n : Nat} (h : n ≤ 100000) : n < sizeLine := Nat.lt_of_le_of_lt h (by decide)
theorem small_le {n : Nat} (h : n ≤ 100000) : n ≤ sizeLine := Nat.le_of_lt (small_len h)
end Ab

set_option maxHeartbeats 4000000
/-! Ab10: sorted(set(xs)), xs a list or a tuple of tuples of ints. -/
namespace Ab
open PySem PySem.Spec PyProof.Rows L2
open PySem.W (EachIs dataLe Sortable AllAlike)

section
variable {P : Program} {w : World} {A : Around} {E : Value → Shared → Prop} {s : Shared}
abbrev newSet (w : World) : Obj := { cls := .type "set", dict := none, data := .set #[] 0 (.fresh 0 0 (!w.params.followText "set-order")) }
set_option maxHeartbeats 3200000 in
/-- set(t), t a tuple of tuples of ints -/
theorem set_of_tuple {l : Addr} {items : Array Value} (ks : List (Addr × List Int)) {Q : Value → Shared → Prop} (hh : A.handled = none) (hl : s.heap.IsTuple l items) (hit : items.toList = ks.map fun p => Value.ref p.1)
    (hk : ∀ p ∈ ks, IsT P w s.heap p.2 p.1) (hfew : ks.length < 64) (hu : A.units + 3 < cLine)
    (fin : ∀ (h1 : Heap) (tk : Nat) L es ep t, SetTR P w h1 s.heap.objs.size L es ep t → Got ks ks.length L → (∀ b o, s.heap.get? b = some o → h1.get? b = some o) → Q (.ref s.heap.objs.size) { s with heap := h1, toks := tk }) :
    wpAny (model P w) A (call (.type "set") [.ref l]) Q E s := by
  have n0 : items.size = ks.length := by
    have e := congrArg List.length hit
    rwa [Array.length_toList, List.length_map] at e
  obtain ⟨c, tl, mro⟩ := F.called_set.mro
  have made := F.called_set.made
  have sub := F.called_set.sub
  refine wpAny_call (codeAny_of_tree ?_)
  show wpAny _ _ (callAny (.type "set") _) _ _ _
  refine wpAny_pure ⟨Code.quiet_builtin _ (by decide +kernel), ?_⟩
  refine codeAny_builtin F.entry_type_call ?_
  rw [Around.under_plain (weight_type_call_type "set" [.ref l] []) rfl]
  have t1 := F.called_set.notType
  have t2 := F.called_set.canCreate
  have t3 := F.typeCall_set_1 (.ref l)
  repeat (any_goals (first | assumption | wp_step))
  have made2 := code_set_led1 (P := P) (w := w) (A := A.in1) (s := s) (.ref l) (E := E) (Q₁ := fun o s₁ => o = .ref s.heap.objs.size ∧ s₁ = { s with heap := s.heap.push (newSet w) }) ⟨rfl, rfl⟩
  refine codeAny_mono made2 fun r sa hr => ?_
  cases r with
  | error e => exact hr
  | ok f1 =>
    cases f1 with
    | next => exact hr.elim
    | brk => exact hr.elim
    | cont => exact hr.elim
    | ret obj =>
      obtain ⟨rfl, rfl⟩ := hr
      have atS : (s.heap.push (newSet w)).get? s.heap.objs.size = some (newSet w) := Heap.get?_push_size _ rfl
      have tyS : Shared.TypeIs { s with heap := s.heap.push (newSet w) } (.ref s.heap.objs.size) "set" := ⟨_, atS, rfl⟩
      have i1 := F.called_set.init.lookup
      have i2 := F.called_set.init.bind (.ref s.heap.objs.size)
      repeat (any_goals (first | assumption | wp_step))
      let Rw : Result → Shared → Prop := wants (fun r sb => r = .none ∧ ∃ h1 tk L es ep t, sb = { s with heap := h1, toks := tk } ∧ SetTR P w h1 s.heap.objs.size L es ep t ∧ Got ks ks.length L ∧ ∀ b o, s.heap.get? b = some o → h1.get? b = some o) E
      refine codeAny_mono (codeAny_call_builtin (R := Rw) F.called_set.init.plain F.entry_set_init (check_set_init_1 tyS ?_)) fun r2 sb hr2 => ?_
      · obtain ⟨ol, hol, hcl, nl, hdl⟩ := hl
        obtain ⟨ocls, odict, odata, oslots⟩ := ol
        simp only at hcl hdl
        subst hcl; subst hdl
        have atL : (s.heap.push (newSet w)).get? l = some { cls := .type "tuple", dict := odict, data := .seq items nl, slots := oslots } := Heap.get?_push_of_some _ hol
        have f1 := F.sub_tuple_set
        have f2 := F.sub_tuple_frozenset
        have f3 : (Value.type "tuple" == Value.type "dict") = false := by decide
        have tupL : (s.heap.push (newSet w)).IsTuple l items := ⟨_, atL, rfl, nl, rfl⟩
        unfold Builtin.«set.__init__» noKeywords Builtin.Frozenset.updateFrom
        generalize hPI : pyIter = PI
        wp_walk
        subst hPI
        refine wpAny_pyIter_tuple tupL ?_
        refine wpAny_bind (wpAny_runValue ?_)
        have ltL : l < s.heap.objs.size := Heap.lt_size hol
        have calm3 : A.in1.in1.in1.handled = none := by simp [hh]
        have neI : l ≠ (s.heap.push (newSet w)).objs.size := by
          rw [Heap.size_push]
          exact Nat.ne_of_lt (Nat.lt_succ_of_lt ltL)
        have nS : s.heap.objs.size ∉ [(s.heap.push (newSet w)).objs.size, l] := by
          rw [Heap.size_push]
          simp only [List.mem_cons, List.not_mem_nil, or_false, not_or]
          exact ⟨Nat.ne_of_lt (Nat.lt_succ_self _), Nat.ne_of_gt ltL⟩
        have vals : ∀ (i : Nat) (v : Value), items[i]? = some v → ∃ p, ks[i]? = some p ∧ v = .ref p.1 := fun i v hv => by
          have e : items.toList[i]? = some v := by rw [Array.getElem?_toList]; exact hv
          rw [hit, List.getElem?_map] at e
          cases hq : ks[i]? with
          | none => rw [hq] at e; cases e
          | some p =>
            rw [hq] at e
            exact ⟨p, rfl, (Option.some.inj e).symm⟩
        have free : ∀ b, s.heap.objs.size ≤ b → s.heap.get? b = none := fun b hb => Heap.get?_none_of_le hb
        refine set_update_tups ((Walks.tuple calm3 _ l neI items).toS) s.heap.objs.size nS ks n0 hfew vals s.heap hk (free _ (Nat.le_refl _))
          (fun b hb => free b (by rw [List.mem_singleton.mp hb, Heap.size_push]; exact Nat.le_succ _)) hu (items.size - 0) 0 _ (by omega) (Nat.zero_le _)
          ⟨⟨_, Heap.get?_push_size _ rfl, rfl, rfl⟩, tupL.push _⟩ (fun b o e => Heap.get?_push_of_some _ (Heap.get?_push_of_some _ e)) ⟨[], #[], 0, _, setTR_fresh (Heap.get?_push_of_some _ atS), Got.zero ks⟩ fun sc L es ep t hm hS g hkp => ?_
        obtain ⟨h1, g2, d1, tk1, os1⟩ := sc
        have eg : g2 = s.gens := hm.gens
        have ed : d1 = s.drawn := hm.drawn
        have eo : os1 = s.os := hm.os
        subst eg; subst ed; subst eo
        show wpAny _ _ _ _ _ _
        refine wpAny_pure ?_
        show wpAny _ _ (ret Value.none) _ _ _
        rw [n0] at g
        exact wpAny_pure ⟨rfl, h1, tk1, L, es, ep, t, rfl, hS, g, hkp⟩
      · cases r2 with
        | error e => exact hr2
        | ok fl2 =>
          cases fl2 with
          | ret r =>
            obtain ⟨rfl, h1, tk, L, es, ep, t, rfl, hS, g, hk1⟩ := hr2
            repeat (any_goals (first | assumption | wp_step))
            exact fin _ _ _ _ _ _ hS g hk1
          | _ => exact hr2.elim
end
end Ab

set_option maxHeartbeats 4000000
namespace Ab
open PySem PySem.Spec PyProof.Rows L2
open PySem.W (EachIs dataLe Sortable AllAlike)

theorem perm_lift {α β : Type} {f : α → β} {vs ws : List β} (h : vs.Perm ws) : ∀ L : List α, ws = L.map f → ∃ L1 : List α, L1.Perm L ∧ vs = L1.map f := by
  induction h with
  | nil => intro L e; exact ⟨L, .refl _, e⟩
  | cons x _ ih =>
    intro L e
    cases L with
    | nil => cases e
    | cons y L =>
      injection e with e1 e2
      obtain ⟨L1, p, e3⟩ := ih L e2
      exact ⟨y :: L1, p.cons y, by rw [List.map_cons, e1, e3]⟩
  | swap x y l =>
    intro L e
    match L, e with
    | a :: b :: L, e =>
      injection e with e1 e2
      injection e2 with e2 e3
      exact ⟨b :: a :: L, .swap a b L, by rw [List.map_cons, List.map_cons, e1, e2, e3]⟩
  | trans _ _ ih1 ih2 =>
    intro L e
    obtain ⟨L1, p1, e1⟩ := ih2 L e
    obtain ⟨L2, p2, e2⟩ := ih1 L1 e1
    exact ⟨L2, p2.trans p1, e2⟩
theorem each_eq {α : Type} {f : α → Value} : ∀ {out : List Value} {l : List α}, EachIs (fun v q => v = f q) out l → out = l.map f
  | _, _, .nil => rfl
  | _, _, .cons h t => by rw [List.map_cons, h, each_eq t]
theorem reads_ints {h : Heap} : ∀ {vs : List Value} {ns : List Int}, IntsAre vs ns → ReadsAll h vs (ns.map PyData.int) []
  | _, _, .nil => .nil
  | _, _, .cons n t r => .cons (as := []) (bs := []) (.int n t) (reads_ints r)
section
variable {P : Program} {w : World} {A : Around} {E : Value → Shared → Prop} {s : Shared}
abbrev tI (xs : List Int) : PyData := .tuple (xs.map .int)
theorem isT_reads {h : Heap} {k : List Int} {b : Addr} (x : IsT P w h k b) : Reads h (.ref b) (tI k) [] := by
  obtain ⟨o, items, n, ho, hc, hd, hi⟩ := x
  exact .tuple ho hc hd (reads_ints (ints_of_items hi))
theorem alike_tI (x y : List Int) : PySem.W.alike (tI x) (tI y) = true := by
  show PySem.W.alike (.tuple _) (.tuple _) = true
  simp only [PySem.W.alike]
  exact PySem.W.alike_ints x y
theorem depth_tI (x : List Int) : (tI x).depth = 1 := by
  show PyData.depth (.tuple _) = 1
  rw [PyData.depth, PySem.W.depth_ints]
theorem sorted_set {a : Addr} {L : List (Addr × List Int)} {es : Array (Int × Value)} {ep : Nat} {t : SetTable} {Q : Value → Shared → Prop} (R : SetTR P w s.heap a L es ep t) (hh : A.handled = none) (hu : A.units + 10 < cLine) (hne : ∀ p ∈ L, p.2 ≠ [])
    (fin : ∀ s1 p (out : List Value) (c : Nat) (L1 : List (Addr × List Int)), (∀ b o, s.heap.get? b = some o → s1.heap.get? b = some o) → s1.gens = s.gens → s1.os = s.os → s.heap.objs.size ≤ p →
      s1.heap.get? p = some (seqObj "list" out.toArray c) → out = L1.map (fun q => Value.ref q.1) → L1.Perm L → L1.Pairwise (fun q r => dataLe false (fun q : Addr × List Int => tI q.2) q r = true) → Q (.ref p) s1) :
    wpAny (model P w) A (call (.builtin "sorted") [.ref a]) Q E s := by
  obtain ⟨o, ho, hex, hd⟩ := R.ob
  have few := R.few
  have size := R.size
  refine Calls.call_function_entry kind_sorted plain_sorted entry_sorted (args_sorted1 _) ?_
  unfold Builtin.«sorted»
  refine wpAny_bind (m := checkCount "sorted" 1 1 _) (wpAny_pure ?_)
  refine wpAny_bind (collect_set (A := A.in1) hh ⟨o, ho, hex.1, hd⟩ R.fits (by unfold scanBound; omega) R.tab.ris R.led fun s1 vs k1 hz g1 o1 pm => ?_)
  have he : es.toList.map (·.2) = L.map fun q => Value.ref q.1 := by
    rw [R.rows]
    unfold rowsOf
    rw [List.map_map] <;> rfl
  rw [he] at pm
  obtain ⟨L1, p1, ev⟩ := perm_lift pm L rfl
  have hl1 : L1.length = L.length := p1.length_eq
  have hvl : vs.length = L.length := by rw [ev, List.length_map, hl1]
  refine wpAny_bind (wpAny_newList ?_ (by rw [sizeLine_eq]; omega))
  have hoL : (s1.heap.push (seqObj "list" vs.toArray 0)).get? s1.heap.objs.size = some (seqObj "list" vs.toArray 0) := Heap.get?_push_size _ rfl
  have rd : ∀ q ∈ L1, Reads (s1.heap.push (seqObj "list" vs.toArray 0)) (.ref q.1) (tI q.2) [] := fun q hq => isT_reads (P := P) (w := w) (isT_keep (R.tup q (p1.mem_iff.mp hq)) fun b u e => Heap.get?_push_of_some _ (k1 b u e))
  have e1 : ∀ l : List (Addr × List Int), EachIs (fun v (q : Addr × List Int) => v = Value.ref q.1) (l.map fun q => Value.ref q.1) l := fun l => by
    induction l with
    | nil => exact .nil
    | cons q l ih => exact .cons rfl ih
  have e2 : ∀ l : List (Addr × List Int), (∀ q ∈ l, q ∈ L1) → EachIs (fun v (q : Addr × List Int) => ∃ as, Reads (s1.heap.push (seqObj "list" vs.toArray 0)) v (tI q.2) as ∧ s1.heap.objs.size ∉ as) (l.map fun q => Value.ref q.1) l := fun l => by
    induction l with
    | nil => intro _; exact .nil
    | cons q l ih => intro hs; exact .cons ⟨[], rd q (hs q List.mem_cons_self), by simp⟩ (ih fun r hr => hs r (List.mem_cons_of_mem _ hr))
  have hA : AllAlike (L1.map fun q => tI q.2) := PySem.W.AllAlike.of fun b b' => alike_tI b.2 b'.2
  have hS : Sortable (L1.map fun q => tI q.2) := .inl fun d hd => by
    obtain ⟨q, hq, rfl⟩ := List.mem_map.mp hd
    have hn := hne q (p1.mem_iff.mp hq)
    cases e : q.2 with
    | nil => exact absurd e hn
    | cons x r => exact ⟨.int x, r.map .int, rfl⟩
  refine wpAny_bind (wpAny_holding ?_)
  refine PySem.W.list_sort_data (s := { s1 with heap := s1.heap.push (seqObj "list" vs.toArray 0) }) (R := fun v (q : Addr × List Int) => v = Value.ref q.1) (enc := fun q : Addr × List Int => tI q.2) (bs := L1) (vs := vs) hoL (by rw [ev]; exact e1 L1) (by rw [ev] at e2 ⊢; exact e2 L1 fun _ h => h) hA hS (by rw [sizeLine_eq]; omega) (fun b hb => ?_) fun out ho2 hE => ?_
  · rw [depth_tI]
    show A.in1.units + 1 + 1 < cLine
    have : A.in1.units = A.units + 1 := rfl
    omega
  · obtain ⟨c, hc⟩ := sortedHeap_at (vs := vs) (out := out.toArray) hoL
    have eo : out = (L1.mergeSort (dataLe false fun q : Addr × List Int => tI q.2)).map fun q => Value.ref q.1 := each_eq hE
    refine wpAny_pure ⟨_, rfl, fin _ s1.heap.objs.size out c (L1.mergeSort (dataLe false fun q : Addr × List Int => tI q.2)) (fun b u e => ?_) g1 o1 hz hc eo ((List.mergeSort_perm _ _).trans p1) ?_⟩
    · have e := k1 b u e
      have hlt := Heap.lt_size e
      show (sortedHeap _ _ _ _).get? b = some u
      rw [sortedHeap_old (Nat.ne_of_lt hlt) (by rw [size_push']; exact Nat.lt_succ_of_lt hlt)]
      exact Heap.get?_push_of_some _ e
    · exact PySem.W.sort_pairwise (PySem.W.sortLe_total _ _ _) L1
end

section
variable {X : Cx}
def rSetS (K : PySem.W.Frag) (P : Program) (w : World) : List V → Hp → VK → Prop := fun xs H Q => ∃ (l : Addr) (b : Bool) (ks : List (Addr × List Int)), xs = [V.ref l] ∧ Seq K H b l (ks.map fun p => V.ref p.1) ∧ (∀ p ∈ ks, SqT K H p.1 (p.2.map V.int)) ∧ ks.length < 64 ∧
  ∀ a L, H a = none → (∀ p ∈ L, p ∈ ks) → (∀ p ∈ ks, p.2 ∈ L.map (·.2)) → (L.map (·.2)).Nodup → Q (.ref a) (upd H a (SetTO P w a L))
theorem cr_setS (hc : X.calm = true) (hu : X.A.units + 64 < cLine) : CallR X (.type "set") (rSetS X.K X.prog X.w) := by
  intro pins s σ H xs us Q I r h
  obtain ⟨l, b, ks, rfl, hl, hk, hf, q⟩ := h
  rw [Vals.ref1 r]
  have hn : H s.heap.objs.size = none := I.hok.fresh (Nat.le_refl _)
  have go : ∀ (h1 : Heap) (tk : Nat) L es ep t, SetTR X.prog X.w h1 s.heap.objs.size L es ep t → Got ks ks.length L → (∀ b o, s.heap.get? b = some o → h1.get? b = some o) → EP X pins σ Q (.ref s.heap.objs.size) { s with heap := h1, toks := tk } := fun h1 tk L es ep t R g k =>
    ⟨.ref s.heap.objs.size, upd H s.heap.objs.size (SetTO X.prog X.w s.heap.objs.size L), I.laid (t' := tk) k (Nat.le_refl _) (setTO_new R.t0), rfl, q _ L hn (fun p hp => List.mem_of_mem_take (g.sub p hp)) (fun p hp => g.all p (by rw [List.take_length]; exact hp)) R.nd⟩
  cases b with
  | true =>
    obtain ⟨its, rv, pl, hz⟩ := I.list hl
    exact call_set_tups (P := X.prog) (w := X.w) ks (I.ok.hd hc) pl.isList (by simpa using refs_of_vals rv) (fun p hp => I.isT (hk p hp)) hf (by omega) go
  | false =>
    obtain ⟨its, rv, pl, hz⟩ := I.tuple hl
    have pl : s.heap.IsTuple l its.toArray := by
      obtain ⟨o, e1, e2, n, e3⟩ := pl
      exact ⟨o, e1, e2, n, e3⟩
    exact set_of_tuple (P := X.prog) (w := X.w) ks (I.ok.hd hc) pl (by simpa using refs_of_vals rv) (fun p hp => I.isT (hk p hp)) hf (by omega) go
def rSortS (K : PySem.W.Frag) (P : Program) (w : World) : List V → Hp → VK → Prop := fun vs H Q => ∃ (a : Addr) (L : List (Addr × List Int)), vs = [V.ref a] ∧ H a = some (SetTO P w a L) ∧ (∀ p ∈ L, SqT K H p.1 (p.2.map V.int)) ∧ (∀ p ∈ L, p.2 ≠ []) ∧
  ∀ (L1 : List (Addr × List Int)) (p : Addr), L1.Perm L → L1.Pairwise (fun q r => dataLe false (fun q : Addr × List Int => tI q.2) q r = true) → H p = none → Q (.ref p) (upd H p (.lst (L1.map fun q => V.ref q.1)))
theorem cr_sortS (hc : X.calm = true) (hu : X.A.units + 64 < cLine) : CallR X (.builtin "sorted") (rSortS X.K X.prog X.w) := by
  intro pins s σ H vs us Q I r h
  obtain ⟨a, L, rfl, ha, hk, hne, q⟩ := h
  have R0 : SetT0 X.prog X.w s.heap a L := (I.hok a _ ha).1
  obtain ⟨es, ep, t, R⟩ := R0.full fun p hp => I.isT (hk p hp)
  rw [Vals.ref1 r]
  refine sorted_set R (I.ok.hd hc) (by omega) hne fun s1 p out c L1 k g o hp hg hout pm pw => ?_
  have few : L1.length < 64 := by rw [pm.length_eq]; exact R.few
  have hlen : (L1.map fun q => V.ref q.1).length ≤ sizeLine := by rw [List.length_map, sizeLine_eq]; omega
  have hn : H p = none := I.hok.fresh hp
  have hv : Vals (L1.map fun q => V.ref q.1) out := by rw [hout]; exact vals_of_refs L1
  obtain ⟨h1, g1, d1, tk1, os1⟩ := s1
  have g : g1 = s.gens := g
  have o : os1 = s.os := o
  subst g
  subst o
  have J : Inv X pins σ (upd H p (.lst (L1.map fun q => V.ref q.1))) { s with heap := h1, gens := s.gens, drawn := d1, toks := tk1 } :=
    I.call (ch := []) (Un.laid k hp hn) (I.hok.laid k hp ⟨hlen, out, c, hv, hg⟩) I.bare (fun _ z => nomatch z)
  exact ⟨.ref p, _, J, rfl, q L1 p pm pw hn⟩
theorem dpa_ints {K : PySem.W.Frag} {F : Hp} : ∀ ns : List Int, DpAll K F (ns.map V.int) (ns.map PyData.int)
  | [] => .nil
  | n :: ns => .cons (.int n) (dpa_ints ns)
theorem dpa_tups {K : PySem.W.Frag} {F : Hp} : ∀ {rows : List (List Int)} {vs : List V}, DpAll K F vs (rows.map tI) → ∃ ks : List (Addr × List Int), vs = (ks.map fun p => V.ref p.1) ∧ rows = ks.map (·.2) ∧ ∀ p ∈ ks, SqT K F p.1 (p.2.map V.int)
  | [], _, h => by cases h; exact ⟨[], rfl, rfl, fun _ z => nomatch z⟩
  | r :: rows, _, h => by
    cases h with
    | cons h1 h2 =>
      obtain ⟨ks, e1, e2, e3⟩ := dpa_tups h2
      cases h1 with
      | tup hs ha =>
        obtain ⟨e4, _⟩ := intsD_ok (intsD_map' r) ha
        subst e4
        refine ⟨(_, r) :: ks, by rw [List.map_cons, ← e1], by rw [List.map_cons, ← e2], fun p hp => ?_⟩
        rcases List.mem_cons.mp hp with rfl | hp
        · exact hs
        · exact e3 p hp
def aSortSet (Te : ATE) : ATE := fun ρ K => Te ρ fun x ρ1 => arg x fun y => cont ρ1 y fun _ ds => ∃ rows : List (List Int), ds = rows.map tI ∧ rows.length < 64 ∧ (∀ r ∈ rows, r ≠ []) ∧
  ∀ rows1 : List (List Int), rows1.Nodup → (∀ r, r ∈ rows1 ↔ r ∈ rows) → rows1.Pairwise (fun q r => dataLe false tI q r = true) → K (.own none (.lst (rows1.map tI))) ρ1
theorem e_sortSet {e : Expr} {Te : ATE} {p p2 pos pos2 : Pos} (hu : X.A.units + 64 < cLine) (hm : X.mg "sorted" = none) (hm2 : X.mg "set" = none) (he : AE X e Te) (hg : Gl X "sorted" := by rfl) (hg2 : Gl X "set" := by rfl) (hc : X.calm = true := by rfl)
    (na : starEach [e] X.env = (false, eval e X.env) :: starEach [] X.env := by rfl)
    (nb : starEach [.Call (.Name "set" p2) [e] [] pos2] X.env = (false, eval (.Call (.Name "set" p2) [e] [] pos2) X.env) :: starEach [] X.env := by rfl) :
    AE X (.Call (.Name "sorted" p) [.Call (.Name "set" p2) [e] [] pos2] [] pos) (aSortSet Te) :=
  pe_of (pe_callB (cr_sortS hc hu) hg hm boot_sorted (pa_cons (pe_callTy (cr_setS hc hu) hg2 hm2 boot_set (pa_cons he pa_nil na) (by decide) (by decide) na rfl) pa_nil nb) (by decide) (by decide) nb rfl) fun σ H Q ⟨C, F, ρ, Kc, hK, I, h, q⟩ => by
    refine ⟨C, F, ρ, _, hK, I, h, fun F1 v x ρ1 H1 s1 r1 k1 => ?_⟩
    obtain ⟨F2, y, s2, I2, hy, k2⟩ := r1.arg k1
    obtain ⟨a, vs, b, ds, rfl, h3, _, h4, rows, rfl, hf, hne, k3⟩ := hy.cont I2 k2
    obtain ⟨ks, rfl, rfl, e3⟩ := dpa_tups h4
    rw [hK] at h3
    refine ⟨a, b, ks, rfl, h3, fun p hp => hK ▸ same_t I2.fz (e3 p hp), by simpa using hf, fun c L hn hL1 hL2 hnd => ?_⟩
    have g : Same H1 (upd H1 c (SetTO X.prog X.w c L)) := same_upd' hn
    have I3 := I2.grow g
    refine ⟨c, L, rfl, upd_same, fun p hp => hK ▸ same_t I3.fz (e3 p (hL1 p hp)), fun p hp => hne _ (List.mem_map.mpr ⟨p, hL1 p hp, rfl⟩), fun L1 p pm pw hp => ?_⟩
    have d1 : DpAll C.K F2 (L1.map fun q => V.ref q.1) ((L1.map (·.2)).map tI) := by
      have : ∀ l : List (Addr × List Int), (∀ q ∈ l, q ∈ ks) → DpAll C.K F2 (l.map fun q => V.ref q.1) ((l.map (·.2)).map tI) := fun l => by
        induction l with
        | nil => intro _; exact .nil
        | cons q l ih =>
          intro hs
          refine .cons (.tup (e3 q (hs q List.mem_cons_self)) ?_) (ih fun r hr => hs r (List.mem_cons_of_mem _ hr))
          exact dpa_ints q.2
      exact this L1 fun q hq => hL1 q (pm.mem_iff.mp hq)
    refine q F2 _ (.own none (.lst _)) ρ1 _ (s1.trans s2) (I3.newOwn hp d1) (k3 _ ((pm.map (·.2)).nodup_iff.mpr hnd) (fun r => ?_) ?_)
    · constructor
      · intro hr
        obtain ⟨p, hp, rfl⟩ := List.mem_map.mp hr
        exact List.mem_map.mpr ⟨p, hL1 p (pm.mem_iff.mp hp), rfl⟩
      · intro hr
        obtain ⟨p, hp, rfl⟩ := List.mem_map.mp hr
        exact (pm.map (·.2)).mem_iff.mpr (hL2 p hp)
    · rw [List.pairwise_map]
      exact pw
end
theorem e_globI {X : Cx} {x : Str} {i : Int} {t : Tok} {pos : Pos} (hg : Gl X x) (hm : X.mg x = some (.int i t)) (hd : (x == ("__debug__" : Str)) = false := by decide) : AE X (.Name x pos) (aC (.int i)) := e_c (pe_glob hg hm (v := .int i) ⟨t, rfl⟩ hd) fun _ _ => .int i
end Ab

set_option maxHeartbeats 4000000
/-! Ab12: equations for reading, one a case; statements one by one. -/
namespace Ab
open PySem PySem.Spec PyProof.Rows L2
section
variable {ρ : AS} {d : PyData} {ds es : List PyData} {t : Option Nat} {i : Nat}
def nm (i : Nat) : Option (Option AV) → AS → (AV → AS → Prop) → Prop
  | some (some (.dat d)), ρ, K => K (.dat d) ρ
  | some (some (.own _ _)), ρ, K => K (.ali i) ρ
  | _, _, _ => False
theorem aName_eq {K : AV → AS → Prop} : aName i ρ K = nm i ρ[i]? ρ K := by
  unfold aName nm
  rcases ρ[i]? with _ | _ | _ | _ | _ <;> rfl
theorem nm_dat {K : AV → AS → Prop} : nm i (some (some (.dat d))) ρ K = K (.dat d) ρ := rfl
theorem nm_own {K : AV → AS → Prop} {o : OV} : nm i (some (some (.own t o))) ρ K = K (.ali i) ρ := rfl
theorem dd_dat {k : PyData → Prop} : dd (.dat d) k = k d := rfl
theorem dd_own {k : PyData → Prop} : dd (.own t (.lst ds)) k = k (.list ds) := rfl
theorem bb_bool {b : Bool} {k : Bool → Prop} : bb (.bool b) k = k b := rfl
theorem arg_dat {k : AV → Prop} : arg (.dat d) k = k (.dat d) := rfl
theorem arg_own {k : AV → Prop} : arg (.own t (.lst ds)) k = k (.dat (.list ds)) := rfl
theorem arg_ali {k : AV → Prop} : arg (.ali i) k = k (.ali i) := rfl
theorem das_nil {k : List PyData → Prop} : das [] k = k [] := rfl
theorem das_dat {r : List AV} {k : List PyData → Prop} : das (.dat d :: r) k = das r fun ds => k (d :: ds) := rfl
theorem cont_list {k : Bool → List PyData → Prop} : cont ρ (.dat (.list ds)) k = k true ds := rfl
theorem cont_tup {k : Bool → List PyData → Prop} : cont ρ (.dat (.tuple ds)) k = k false ds := rfl
theorem cont_own {k : Bool → List PyData → Prop} : cont ρ (.own t (.lst ds)) k = k true ds := rfl
theorem cont_ali {k : Bool → List PyData → Prop} : cont ρ (.ali i) k = contS ρ[i]? k := rfl
theorem contS_own {k : Bool → List PyData → Prop} : contS (some (some (.own t (.lst ds)))) k = k true ds := rfl
theorem ownL_own {k : Option Nat → List PyData → Prop} : ownL (some (some (.own t (.lst ds)))) k = k t ds := rfl
theorem ownO_own {o : OV} {k : Option Nat → OV → Prop} : ownO (some (some (.own t o))) k = k t o := rfl
theorem stor_dat {k : AS → Prop} : stor i (.dat d) ρ k = k (ρ.set i (some (.dat d))) := rfl
theorem stor_own {o : OV} {k : AS → Prop} : stor i (.own t o) ρ k = k (ρ.set i (some (.own t o))) := rfl
theorem iD_int {n : Int} {k : Int → Prop} : iD (.int n) k = k n := rfl
theorem ii_int {f : Int → Int → (PyData → Prop) → Prop} {m n : Int} {k : PyData → Prop} : ii f (.int m) (.int n) k = f m n k := rfl
theorem i1_int {f : Int → (PyData → Prop) → Prop} {m : Int} {k : PyData → Prop} : i1 f (.int m) k = f m k := rfl
theorem sAddU_int {m n : Int} {k : PyData → Prop} : sAddU (.int m) (.int n) k = k (.int (m + n)) := rfl
theorem sAddU_tup {k : PyData → Prop} : sAddU (.tuple ds) (.tuple es) k = (ds.length + es.length ≤ sizeLine ∧ k (.tuple (ds ++ es))) := rfl
theorem truS_none {k : Bool → Prop} : truS ρ (.dat .none) k = k false := rfl
theorem truS_bool {b : Bool} {k : Bool → Prop} : truS ρ (.dat (.bool b)) k = k b := rfl
theorem truS_int {n : Int} {k : Bool → Prop} : truS ρ (.dat (.int n)) k = k (n != 0) := rfl
theorem truS_list {k : Bool → Prop} : truS ρ (.dat (.list ds)) k = k (!ds.isEmpty) := rfl
theorem truS_tup {k : Bool → Prop} : truS ρ (.dat (.tuple ds)) k = k (!ds.isEmpty) := rfl
theorem truS_ali {k : Bool → Prop} : truS ρ (.ali i) k = contS ρ[i]? fun _ ds => k (!ds.isEmpty) := rfl
theorem srcOf_list {k : IS → Prop} : srcOf ρ (.dat (.list ds)) k = k ⟨ds, [], fun _ => True⟩ := rfl
theorem srcOf_tup {k : IS → Prop} : srcOf ρ (.dat (.tuple ds)) k = k ⟨ds, [], fun _ => True⟩ := rfl
theorem srcOf_ali {k : IS → Prop} : srcOf ρ (.ali i) k = ownL ρ[i]? fun _ ds => k ⟨ds, [i], fun ρ' => ownL ρ'[i]? fun _ es => es = ds⟩ := rfl
theorem got_some {α : Type} (x : α) (k : α → Prop) : got (some x) k = k x := rfl
theorem gZ_nil {k : AS → Prop} : gZ [] ρ k = k ρ := rfl
theorem gC_cons {T : ATG} {U : ATGs} {k : AS → Prop} : gC T U (d :: ds) ρ k = T d ρ fun ρ' => U ds ρ' k := rfl
theorem gT_tup {n : Nat} {U : ATGs} {k : AS → Prop} : gT n U (.tuple ds) ρ k = (ds.length = n ∧ U ds ρ k) := rfl
theorem onlyDat_dat {p : Prop} : onlyDat (.dat d) p = p := rfl
theorem notAli_dat {p : Prop} : notAli (.dat d) p = p := rfl
theorem notAli_own {o : OV} {p : Prop} : notAli (.own t o) p = p := rfl
theorem getO_some {o : OV} {k : OV → Prop} : getO (some o) k = k o := rfl
theorem fin_none {k : Option OV → Prop} : fin none ρ k = k none := rfl
theorem fin_some {o : OV} {k : Option OV → Prop} : fin (some o) ρ k = finO ρ[0]? k := rfl
theorem finO_own {o : OV} {k : Option OV → Prop} : finO (some (some (.own (some 0) o))) k = k (some o) := rfl
theorem callA_nil {a : ASp} {K : AV → AS → Prop} : callA a [] ρ K = a none [] fun x oo' => oo' = none ∧ notAli x (K x ρ) := rfl
theorem callA_dat {a : ASp} {r : List AV} {K : AV → AS → Prop} : callA a (.dat d :: r) ρ K = das (.dat d :: r) fun ds => a none ds fun x oo' => oo' = none ∧ notAli x (K x ρ) := rfl
theorem callA_ali {a : ASp} {r : List AV} {K : AV → AS → Prop} : callA a (.ali i :: r) ρ K = das r fun ds => ownO ρ[i]? fun t o => a (some o) ds fun x oo' => onlyDat x (getO oo' fun o' => K x (ρ.set i (some (.own t o')))) := rfl
theorem argS_none : argS none ds = ds.map fun d => some (.dat d) := rfl
theorem argS_some {o : OV} : argS (some o) ds = some (.own (some 0) o) :: ds.map fun d => some (.dat d) := rfl
theorem rt_ad {oo : Option OV} {Kc : AV → Option OV → Prop} {x : AV} : (adOf oo Kc).rt x ρ = notAli x (fin oo ρ (Kc x)) := rfl
theorem nx_ad {oo : Option OV} {Kc : AV → Option OV → Prop} : (adOf oo Kc).nx ρ = fin oo ρ (Kc (.dat .none)) := rfl
theorem isN_none {k : PyData → Prop} : sIsN .none .none k = k (.bool true) := by unfold sIsN; simp
theorem isN_tup {k : PyData → Prop} : sIsN (.tuple ds) .none k = k (.bool false) := by unfold sIsN; simp
theorem notN_none {k : PyData → Prop} : sNotN .none .none k = k (.bool false) := by unfold sNotN; simp
theorem notN_tup {k : PyData → Prop} : sNotN (.tuple ds) .none k = k (.bool true) := by unfold sNotN; simp
/-- one statement by itself: what holds behind it -/
theorem cut {T U : ATS} {A : AD} (J : AS → Prop) (h1 : ∀ Kn : AS → Prop, (∀ ρ', J ρ' → Kn ρ') → T { A with nx := Kn } ρ) (h2 : ∀ ρ', J ρ' → U A ρ') : aSeq T U A ρ := h1 (U A) h2
/-- one statement that leads to one state -/
theorem cut1 {T U : ATS} {A : AD} (ρ1 : AS) (h1 : ∀ Kn : AS → Prop, Kn ρ1 → T { A with nx := Kn } ρ) (h2 : U A ρ1) : aSeq T U A ρ := h1 (U A) h2
end
end Ab

set_option maxHeartbeats 4000000
/-! Ab13: the head: a law's promise by data is its promise. -/
namespace Ab
open PySem PySem.Spec PyProof.Rows L2
theorem head_of {K : PySem.W.Frag} {a : ASp} {H : Hp} {p : Addr} {ns : List Int} (hS : SqL K H p (ns.map V.int)) (h : ∀ Kc : AV → Option OV → Prop, Kc (.dat (.bool true)) none → a none [.list (ns.map PyData.int)] Kc) :
    toSp K a [.ref p] H (fun v _ => v = .bl true) fun _ _ _ => False := by
  refine ⟨⟨K, H, H, fun _ => none⟩, H, none, [.list (ns.map PyData.int)], fun x _ => x = .dat (.bool true), rfl, ⟨rfl, Same.refl H, Same.refl H, fun b o e => .inl e, fun i d e => ?_, fun _ _ => False, ⟨fun i t o e => ?_, fun i b z => z.elim, fun i j b z => z.elim⟩⟩, h _ rfl, ?_⟩
  · match i, e with
    | 0, e =>
      cases e
      exact ⟨.ref p, rfl, .lst hS (dpa_ints ns)⟩
  · match i, e with
    | 0, e => cases e
  · rintro x oo' rfl F' v H' _ r
    have g : Dp K F' v (.bool true) := by
      obtain ⟨F2, d, s2, I2, hd, k2⟩ := (Res.data (k := fun d => d = .bool true) r (by rfl))
      cases k2
      cases hd
      exact .bl _
    cases g
    rfl
end Ab

set_option maxHeartbeats 4000000
/-! M75a: what the defs of the quorums program compute, in plain lists. -/
namespace K75
open PySem Ab
open PySem.W (dataLe)
def subsN : Nat → List (List Int)
  | 0 => [[]]
  | n + 1 => subsN n ++ (subsN n).map fun r => r ++ [(n : Int)]
def keyS (r : List Int) : PyData := .tuple [.int r.length, tI r]
def leK : List Int → List Int → Bool := dataLe false keyS
def setsOf (p : Int) : List (List Int) := (subsN p.toNat).mergeSort leK
def within (one other : List Int) : Bool := one.all fun x => decide (x ∈ other)
def hit (row down : List Int) : Bool := row.any fun x => decide (x ∈ down)
def hits (rows : List (List Int)) (s : List Int) : Bool := rows.all fun r => hit r s
def stepM (φ : List Int → Bool) (found : List (List Int)) (s : List Int) : List (List Int) := if (φ s && !(found.any fun one => within one s)) = true then found ++ [s] else found
def minsF (φ : List Int → Bool) (S : List (List Int)) : List (List Int) := S.foldl (stepM φ) []
def dualF (p : Int) (rows : List (List Int)) : List (List Int) := minsF (hits rows) (setsOf p)
def wt (ws s : List Int) : Int := (s.map fun k => ws.getD k.toNat 0).sum
def majF (ws : List Int) (need : Int) : List (List Int) := minsF (fun s => decide (need ≤ wt ws s)) (setsOf ws.length)
def fatalF (p : Int) (rows : List (List Int)) : Option (List Int) := (setsOf p).find? (hits rows)
def firstA : List (List Int) → List (List Int) → Option (List Int × List Int)
  | [], _ => none
  | w :: ws, rs => match rs.find? fun r => !(hit w r) with
    | some r => some (w, r)
    | none => firstA ws rs
def loadsF (p : Int) (rows : List (List Int)) (counts : List Int) : List Int :=
  (List.range p.toNat).map fun (q : Nat) => (((List.range rows.length).filter fun k => decide ((q : Int) ∈ rows.getD k [])).map fun k => counts.getD k 0).sum
/-- what reads read: what the places have, the last write's number, the reads so far -/
def stepP : List Int × Int × List (Int × Int) → Bool × List Int → List Int × Int × List (Int × Int)
  | (have', last, found), (true, row) => (row.foldl (fun h k => h.set k.toNat (last + 1)) have', last + 1, found)
  | (have', last, found), (false, row) => (have', last, found ++ [((row.map fun k => have'.getD k.toNat 0).foldl max 0, last)])
def playF (p : Int) (run : List (Bool × List Int)) : List (Int × Int) := (run.foldl stepP (List.replicate p.toNat 0, 0, [])).2.2
structure OkSet (p : Int) (r : List Int) : Prop where
  ne : r ≠ []
  asc : r.Pairwise (· < ·)
  rng : ∀ x ∈ r, 0 ≤ x ∧ x < p
structure OkSets (p : Int) (rows : List (List Int)) : Prop where
  lo : 1 ≤ p
  hi : p ≤ 6
  one : 1 ≤ rows.length
  few : rows.length ≤ 20
  each : ∀ r ∈ rows, OkSet p r
theorem asc_len : ∀ {r : List Int} {lo hi : Int}, r.Pairwise (· < ·) → (∀ x ∈ r, lo ≤ x ∧ x < hi) → lo ≤ hi → (r.length : Int) ≤ hi - lo
  | [], _, _, _, _, h => by simp; omega
  | x :: r, lo, hi, h1, h2, _ => by
    rw [List.pairwise_cons] at h1
    have hx := h2 x List.mem_cons_self
    have := asc_len (r := r) (lo := x + 1) (hi := hi) h1.2 (fun y hy => ⟨by have := h1.1 y hy; omega, (h2 y (List.mem_cons_of_mem _ hy)).2⟩) (by omega)
    rw [List.length_cons]
    omega
theorem subsN_len : ∀ n, (subsN n).length = 2 ^ n
  | 0 => rfl
  | n + 1 => by
    unfold subsN
    rw [List.length_append, List.length_map, subsN_len n, Nat.pow_succ]
    omega
theorem subsN_mem : ∀ (n : Nat) (s : List Int), s ∈ subsN n ↔ s.Pairwise (· < ·) ∧ ∀ x ∈ s, 0 ≤ x ∧ x < (n : Int)
  | 0, s => by
    unfold subsN
    rw [List.mem_singleton]
    constructor
    · rintro rfl
      exact ⟨.nil, fun _ z => nomatch z⟩
    · rintro ⟨_, h⟩
      cases s with
      | nil => rfl
      | cons x s =>
        have := h x List.mem_cons_self
        omega
  | n + 1, s => by
    unfold subsN
    rw [List.mem_append, List.mem_map, subsN_mem n s]
    constructor
    · rintro (⟨h1, h2⟩ | ⟨r, hr, rfl⟩)
      · exact ⟨h1, fun x hx => ⟨(h2 x hx).1, by have := (h2 x hx).2; omega⟩⟩
      · obtain ⟨h1, h2⟩ := (subsN_mem n r).mp hr
        refine ⟨List.pairwise_append.mpr ⟨h1, .cons (fun _ z => nomatch z) .nil, fun a ha b hb => ?_⟩, fun x hx => ?_⟩
        · rw [List.mem_singleton.mp hb]
          exact (h2 a ha).2
        · rcases List.mem_append.mp hx with hx | hx
          · have := h2 x hx
            omega
          · rw [List.mem_singleton.mp hx]
            omega
    · rintro ⟨h1, h2⟩
      by_cases hn : (n : Int) ∈ s
      · right
        have hne : s ≠ [] := List.ne_nil_of_mem hn
        have hs := List.dropLast_concat_getLast hne
        have hlast : s.getLast hne = (n : Int) := by
          rw [← hs] at h1 hn
          rw [List.pairwise_append] at h1
          rcases List.mem_append.mp hn with z | z
          · have z1 := h1.2.2 _ z _ (List.mem_singleton.mpr rfl)
            have z2 := h2 _ (List.getLast_mem hne)
            omega
          · exact (List.mem_singleton.mp z).symm
        refine ⟨s.dropLast, (subsN_mem n _).mpr ⟨?_, fun x hx => ?_⟩, by rw [← hlast]; exact hs⟩
        · rw [← hs, List.pairwise_append] at h1
          exact h1.1
        · have z := h2 x (List.dropLast_subset s hx)
          rw [← hs, List.pairwise_append] at h1
          have := h1.2.2 x hx _ (List.mem_singleton.mpr rfl)
          omega
      · left
        refine ⟨h1, fun x hx => ?_⟩
        have z := h2 x hx
        have : x ≠ n := fun e => hn (by rw [← e]; exact hx)
        omega
theorem setsOf_mem {p : Int} (hp : 0 ≤ p) (s : List Int) : s ∈ setsOf p ↔ s.Pairwise (· < ·) ∧ ∀ x ∈ s, 0 ≤ x ∧ x < p := by
  unfold setsOf
  rw [List.mem_mergeSort, subsN_mem, Int.toNat_of_nonneg hp]
theorem setsOf_len {p : Int} (hp : 0 ≤ p) (h6 : p ≤ 6) : (setsOf p).length ≤ 64 := by
  unfold setsOf
  rw [List.length_mergeSort, subsN_len]
  exact Nat.pow_le_pow_right (n := 2) (by omega) (by omega : p.toNat ≤ 6)
theorem setsOf_small {p : Int} (hp : 0 ≤ p) (h6 : p ≤ 6) {s : List Int} (h : s ∈ setsOf p) : s.length ≤ 6 := by
  obtain ⟨h1, h2⟩ := (setsOf_mem hp s).mp h
  have := asc_len h1 h2 hp
  omega
theorem depth_tI' (r : List Int) : (tI r).depth = 1 := depth_tI r
theorem alike_keyS (a b : List Int) : PySem.W.alike (keyS a) (keyS b) = true := by
  show PySem.W.alike (.tuple _) (.tuple _) = true
  simp only [PySem.W.alike, PySem.W.alikeAll, PySem.W.alike_ints, Bool.and_self]
theorem depth_keyS (r : List Int) : (keyS r).depth = 2 := by
  show PyData.depth (.tuple _) = 2
  rw [PyData.depth, PyData.depthAll, PyData.depthAll, PyData.depthAll, depth_tI]
  rfl
theorem keyS_sort (l : List (List Int)) : (l.map keyS).mergeSort (dataLe false id) = (l.mergeSort leK).map keyS := (PySem.W.sort_maps (r := leK) (s := dataLe false id) keyS fun _ _ _ _ => rfl).symm
theorem keyS_ok (l : List (List Int)) : PySem.W.AllAlike (l.map keyS) ∧ PySem.W.Sortable (l.map keyS) ∧ ∀ d ∈ l.map keyS, d.depth ≤ 50 :=
  ⟨PySem.W.AllAlike.of alike_keyS, PySem.W.Sortable.tuples fun b => ⟨_, _, rfl⟩, fun d hd => by
    obtain ⟨r, _, rfl⟩ := List.mem_map.mp hd
    rw [depth_keyS]
    decide⟩
theorem firstA_none : ∀ {ws rs : List (List Int)}, (∀ w ∈ ws, ∀ r ∈ rs, hit w r = true) → firstA ws rs = none
  | [], _, _ => rfl
  | w :: ws, rs, h => by
    have e : (rs.find? fun r => !(hit w r)) = none := List.find?_eq_none.mpr fun r hr => by simp [h w List.mem_cons_self r hr]
    unfold firstA
    rw [e]
    exact firstA_none fun v hv => h v (List.mem_cons_of_mem _ hv)
theorem firstA_some : ∀ {pre post : List (List Int)} {w r : List Int} {rs pre2 post2 : List (List Int)}, (∀ v ∈ pre, ∀ r ∈ rs, hit v r = true) → rs = pre2 ++ r :: post2 → (∀ q ∈ pre2, hit w q = true) → hit w r = false → firstA (pre ++ w :: post) rs = some (w, r)
  | [], post, w, r, rs, pre2, post2, _, e, h2, h3 => by
    have e : (rs.find? fun r => !(hit w r)) = some r := by
      rw [e, List.find?_append, List.find?_eq_none.mpr fun q hq => by simp [h2 q hq]]
      simp [h3]
    show firstA (w :: post) rs = _
    unfold firstA
    rw [e]
  | v :: pre, post, w, r, rs, pre2, post2, h1, e, h2, h3 => by
    have e1 : (rs.find? fun r => !(hit v r)) = none := List.find?_eq_none.mpr fun r hr => by simp [h1 v List.mem_cons_self r hr]
    show firstA (v :: (pre ++ w :: post)) rs = _
    unfold firstA
    rw [e1]
    exact firstA_some (fun u hu => h1 u (List.mem_cons_of_mem _ hu)) e h2 h3
theorem OkSet.len {p : Int} {r : List Int} (h : OkSet p r) : (r.length : Int) ≤ p := by
  cases r with
  | nil => exact absurd rfl h.ne
  | cons x r =>
    have hx := h.rng x List.mem_cons_self
    have := asc_len h.asc h.rng (by omega)
    omega
/-! data -/
abbrev eR (rows : List (List Int)) : PyData := .tuple (rows.map tI)
abbrev sv (x : String) : PyData := .str (Str.ofString x)
def eRun : Bool × List Int → PyData := fun q => .tuple [sv (if q.1 = true then "w" else "r"), tI q.2]
def eP : Int × Int → PyData := fun q => .tuple [.int q.1, .int q.2]
def eClash (ws rs : List (List Int)) : PyData := match firstA ws rs with
  | some (a, b) => .tuple [sv "read", tI a, tI b]
  | none => match firstA ws ws with
    | some (a, b) => .tuple [sv "write", tI a, tI b]
    | none => .none
def eStale (ws rs : List (List Int)) : PyData := match firstA ws rs with
  | some (a, b) => .tuple [eRun (true, a), eRun (false, b)]
  | none => .none
/-! promises -/
def sp_check_quorums : ASp := fun oo ds K => ∃ (p : Int) (w r : List (List Int)), oo = none ∧ ds = [.int p, eR w, eR r] ∧ OkSets p w ∧ OkSets p r ∧ K (.dat .none) none
def sp_apart : ASp := fun oo ds K => ∃ a b : List Int, oo = none ∧ ds = [tI a, tI b] ∧ a.length ≤ 1000 ∧ K (.dat (.bool (!(hit a b)))) none
def sp_clash : ASp := fun oo ds K => ∃ (p : Int) (w r : List (List Int)), oo = none ∧ ds = [.int p, eR w, eR r] ∧ OkSets p w ∧ OkSets p r ∧ K (.dat (eClash w r)) none
def sp_stale_run : ASp := fun oo ds K => ∃ (p : Int) (w r : List (List Int)), oo = none ∧ ds = [.int p, eR w, eR r] ∧ OkSets p w ∧ OkSets p r ∧ K (.dat (eStale w r)) none
def sp_play : ASp := fun oo ds K => ∃ (p : Int) (run : List (Bool × List Int)), oo = none ∧ ds = [.int p, .tuple (run.map eRun)] ∧ 1 ≤ p ∧ p ≤ 6 ∧ run.length ≤ 1000 ∧ (∀ q ∈ run, OkSet p q.2) ∧ K (.dat (.tuple ((playF p run).map eP))) none
def sp_is_hit : ASp := fun oo ds K => ∃ a b : List Int, oo = none ∧ ds = [tI a, tI b] ∧ a.length ≤ 1000 ∧ K (.dat (.bool (hit a b))) none
def sp_sets_of : ASp := fun oo ds K => ∃ p : Int, oo = none ∧ ds = [.int p] ∧ 0 ≤ p ∧ p ≤ 6 ∧ K (.own none (.lst ((setsOf p).map tI))) none
def sp_fatal : ASp := fun oo ds K => ∃ (p : Int) (w : List (List Int)) (s : List Int), oo = none ∧ ds = [.int p, eR w] ∧ OkSets p w ∧ fatalF p w = some s ∧ K (.dat (tI s)) none
def sp_survives : ASp := fun oo ds K => ∃ (p : Int) (w : List (List Int)) (s : List Int), oo = none ∧ ds = [.int p, eR w] ∧ OkSets p w ∧ fatalF p w = some s ∧ K (.dat (.int ((s.length : Int) - 1))) none
def sp_dual : ASp := fun oo ds K => ∃ (p : Int) (w : List (List Int)), oo = none ∧ ds = [.int p, eR w] ∧ OkSets p w ∧ K (.dat (eR (dualF p w))) none
def sp_is_within : ASp := fun oo ds K => ∃ a b : List Int, oo = none ∧ ds = [tI a, tI b] ∧ a.length ≤ 1000 ∧ K (.dat (.bool (within a b))) none
def sp_majorities : ASp := fun oo ds K => ∃ (ws : List Int) (need : Int), oo = none ∧ ds = [tI ws, .int need] ∧ 1 ≤ ws.length ∧ ws.length ≤ 6 ∧ (∀ x ∈ ws, 0 ≤ x) ∧ 1 ≤ need ∧ need ≤ ws.sum ∧ K (.dat (eR (majF ws need))) none
def sp_busiest : ASp := fun oo ds K => ∃ (p : Int) (w : List (List Int)) (cs : List Int), oo = none ∧ ds = [.int p, eR w, tI cs] ∧ OkSets p w ∧ cs.length = w.length ∧ (∀ x ∈ cs, 0 ≤ x) ∧ K (.dat (.tuple [tI (loadsF p w cs), .int ((loadsF p w cs).foldl max 0)])) none
/-- the tape of draws: the script, how far it is read, what is left of a number, the seed -/
def tape (ns : List Int) (t l s : Int) : List PyData := [.list (ns.map .int), .int t, .int l, .int s]
structure OkTape (ns : List Int) (t l s : Int) : Prop where
  t0 : 0 ≤ t
  t1 : t ≤ ns.length
  l0 : 0 ≤ l
def sp__law_begin : ASp := fun oo ds K => ∃ ns : List Int, oo = none ∧ ds = [.list (ns.map .int)] ∧ ns.length ≤ 63 ∧ ∀ s, K (.own none (.lst (tape ns 0 0 s))) none
def sp__law_take : ASp := fun oo ds K => ∃ (ns : List Int) (t l s many : Int), oo = some (.lst (tape ns t l s)) ∧ ds = [.int many] ∧ OkTape ns t l s ∧ 1 ≤ many ∧ many ≤ 1000000 ∧
  ∀ r t' l' s', 0 ≤ r → r < many → OkTape ns t' l' s' → K (.dat (.int r)) (some (.lst (tape ns t' l' s')))
def sp__law_set : ASp := fun oo ds K => ∃ (ns : List Int) (t l s p : Int), oo = some (.lst (tape ns t l s)) ∧ ds = [.int p] ∧ OkTape ns t l s ∧ 1 ≤ p ∧ p ≤ 6 ∧
  ∀ r t' l' s', OkSet p r → OkTape ns t' l' s' → K (.dat (tI r)) (some (.lst (tape ns t' l' s')))
def sp__law_least : ASp := fun oo ds K => ∃ rows : List (List Int), oo = none ∧ ds = [eR rows] ∧ rows.length < 64 ∧ (∀ r ∈ rows, r ≠ [] ∧ r.length ≤ 1000) ∧
  ∀ out : List (List Int), out.Nodup → (∀ r, r ∈ out ↔ r ∈ rows ∧ ∀ o ∈ rows, o ≠ r → within o r = false) → out.Pairwise (fun a b => leK a b = true) → K (.own none (.lst (out.map tI))) none
def sp__law_meet : ASp := fun oo ds K => ∃ a b : List Int, oo = none ∧ ds = [tI a, tI b] ∧ a.length ≤ 1000 ∧ K (.dat (.bool (hit a b))) none
def sp_law : ASp := fun oo ds K => ∃ ns : List Int, oo = none ∧ ds = [.list (ns.map .int)] ∧ ns.length ≤ 63 ∧ K (.dat (.bool true)) none
end K75

set_option maxHeartbeats 4000000
namespace K75
open PySem PySem.Spec PyProof.Rows L2 Ab
def topS (i : Nat) : Stmt := PySem.Challenge.pw_tableguild_k75_whole_copies_that_meet.main.body.getD i (.Pass ⟨0, 0, 0, 0⟩)
abbrev st_check_quorums : Stmt := topS 6
abbrev st_apart : Stmt := topS 7
abbrev st_clash : Stmt := topS 8
abbrev st_stale_run : Stmt := topS 9
abbrev st_play : Stmt := topS 10
abbrev st_is_hit : Stmt := topS 11
abbrev st_sets_of : Stmt := topS 12
abbrev st_fatal : Stmt := topS 13
abbrev st_survives : Stmt := topS 14
abbrev st_dual : Stmt := topS 15
abbrev st_is_within : Stmt := topS 16
abbrev st_majorities : Stmt := topS 17
abbrev st_busiest : Stmt := topS 18
abbrev st__law_begin : Stmt := topS 20
abbrev st__law_take : Stmt := topS 21
abbrev st__law_set : Stmt := topS 22
abbrev st__law_least : Stmt := topS 23
abbrev st__law_meet : Stmt := topS 24
abbrev st_law : Stmt := topS 25
theorem sc_check_quorums : FnScope ["places", "writes", "reads", "rows", "row", "ascends", "k", "place"] ["places", "writes", "reads"] (defScope st_check_quorums) := ⟨rfl, rfl, rfl, by decide +kernel, rfl, by decide +kernel, by decide +kernel⟩
theorem sc_apart : FnScope ["one", "other", "place"] ["one", "other"] (defScope st_apart) := ⟨rfl, rfl, rfl, by decide +kernel, rfl, by decide +kernel, by decide +kernel⟩
theorem sc_clash : FnScope ["places", "writes", "reads", "one", "other"] ["places", "writes", "reads"] (defScope st_clash) := ⟨rfl, rfl, rfl, by decide +kernel, rfl, by decide +kernel, by decide +kernel⟩
theorem sc_stale_run : FnScope ["places", "writes", "reads", "one", "other"] ["places", "writes", "reads"] (defScope st_stale_run) := ⟨rfl, rfl, rfl, by decide +kernel, rfl, by decide +kernel, by decide +kernel⟩
theorem sc_play : FnScope ["places", "run", "have", "last", "found", "kind", "row", "place"] ["places", "run"] (defScope st_play) := ⟨rfl, rfl, rfl, by decide +kernel, rfl, by decide +kernel, by decide +kernel⟩
theorem sc_is_hit : FnScope ["row", "down", "place"] ["row", "down"] (defScope st_is_hit) := ⟨rfl, rfl, rfl, by decide +kernel, rfl, by decide +kernel, by decide +kernel⟩
theorem sc_sets_of : FnScope ["places", "found", "place", "row", "_"] ["places"] (defScope st_sets_of) := ⟨rfl, rfl, rfl, by decide +kernel, rfl, by decide +kernel, by decide +kernel⟩
theorem sc_fatal : FnScope ["places", "rows", "down", "row"] ["places", "rows"] (defScope st_fatal) := ⟨rfl, rfl, rfl, by decide +kernel, rfl, by decide +kernel, by decide +kernel⟩
theorem sc_survives : FnScope ["places", "rows"] ["places", "rows"] (defScope st_survives) := ⟨rfl, rfl, rfl, by decide +kernel, rfl, by decide +kernel, by decide +kernel⟩
theorem sc_dual : FnScope ["places", "rows", "found", "some", "row", "one"] ["places", "rows"] (defScope st_dual) := ⟨rfl, rfl, rfl, by decide +kernel, rfl, by decide +kernel, by decide +kernel⟩
theorem sc_is_within : FnScope ["one", "other", "place"] ["one", "other"] (defScope st_is_within) := ⟨rfl, rfl, rfl, by decide +kernel, rfl, by decide +kernel, by decide +kernel⟩
theorem sc_majorities : FnScope ["weights", "need", "found", "some", "place", "one"] ["weights", "need"] (defScope st_majorities) := ⟨rfl, rfl, rfl, by decide +kernel, rfl, by decide +kernel, by decide +kernel⟩
theorem sc_busiest : FnScope ["places", "rows", "counts", "loads", "k", "place"] ["places", "rows", "counts"] (defScope st_busiest) := ⟨rfl, rfl, rfl, by decide +kernel, rfl, by decide +kernel, by decide +kernel⟩
theorem sc__law_begin : FnScope ["script", "seed", "cell"] ["script"] (defScope st__law_begin) := ⟨rfl, rfl, rfl, by decide +kernel, rfl, by decide +kernel, by decide +kernel⟩
theorem sc__law_take : FnScope ["d", "many", "small", "digit"] ["d", "many"] (defScope st__law_take) := ⟨rfl, rfl, rfl, by decide +kernel, rfl, by decide +kernel, by decide +kernel⟩
theorem sc__law_set : FnScope ["d", "places", "row", "k"] ["d", "places"] (defScope st__law_set) := ⟨rfl, rfl, rfl, by decide +kernel, rfl, by decide +kernel, by decide +kernel⟩
theorem sc__law_least : FnScope ["rows", "found", "row", "other", "k", "size"] ["rows"] (defScope st__law_least) := ⟨rfl, rfl, rfl, by decide +kernel, rfl, by decide +kernel, by decide +kernel⟩
theorem sc__law_meet : FnScope ["one", "other", "k"] ["one", "other"] (defScope st__law_meet) := ⟨rfl, rfl, rfl, by decide +kernel, rfl, by decide +kernel, by decide +kernel⟩
theorem sc_law : FnScope ["script", "d", "places", "writes", "k", "reads", "meets", "one", "other", "stale", "run", "told", "read", "last", "kind", "together", "back", "least", "row", "weights", "whole", "need", "rows", "others", "counts", "works", "most"] ["script"] (defScope st_law) := ⟨rfl, rfl, rfl, by decide +kernel, rfl, by decide +kernel, by decide +kernel⟩
structure Defs (K : PySem.W.Frag) (mg : Str → Option Value) where
  f_check_quorums : Addr
  fd_check_quorums : FuncData
  F_check_quorums : Fun K "check_quorums" "check_quorums" st_check_quorums f_check_quorums fd_check_quorums
  n_check_quorums : Binds K fd_check_quorums ["places", "writes", "reads"] []
  g_check_quorums : mg "check_quorums" = some (.ref f_check_quorums)
  f_apart : Addr
  fd_apart : FuncData
  F_apart : Fun K "apart" "apart" st_apart f_apart fd_apart
  n_apart : Binds K fd_apart ["one", "other"] []
  g_apart : mg "apart" = some (.ref f_apart)
  f_clash : Addr
  fd_clash : FuncData
  F_clash : Fun K "clash" "clash" st_clash f_clash fd_clash
  n_clash : Binds K fd_clash ["places", "writes", "reads"] []
  g_clash : mg "clash" = some (.ref f_clash)
  f_stale_run : Addr
  fd_stale_run : FuncData
  F_stale_run : Fun K "stale_run" "stale_run" st_stale_run f_stale_run fd_stale_run
  n_stale_run : Binds K fd_stale_run ["places", "writes", "reads"] []
  g_stale_run : mg "stale_run" = some (.ref f_stale_run)
  f_play : Addr
  fd_play : FuncData
  F_play : Fun K "play" "play" st_play f_play fd_play
  n_play : Binds K fd_play ["places", "run"] []
  g_play : mg "play" = some (.ref f_play)
  f_is_hit : Addr
  fd_is_hit : FuncData
  F_is_hit : Fun K "is_hit" "is_hit" st_is_hit f_is_hit fd_is_hit
  n_is_hit : Binds K fd_is_hit ["row", "down"] []
  g_is_hit : mg "is_hit" = some (.ref f_is_hit)
  f_sets_of : Addr
  fd_sets_of : FuncData
  F_sets_of : Fun K "sets_of" "sets_of" st_sets_of f_sets_of fd_sets_of
  n_sets_of : Binds K fd_sets_of ["places"] []
  g_sets_of : mg "sets_of" = some (.ref f_sets_of)
  f_fatal : Addr
  fd_fatal : FuncData
  F_fatal : Fun K "fatal" "fatal" st_fatal f_fatal fd_fatal
  n_fatal : Binds K fd_fatal ["places", "rows"] []
  g_fatal : mg "fatal" = some (.ref f_fatal)
  f_survives : Addr
  fd_survives : FuncData
  F_survives : Fun K "survives" "survives" st_survives f_survives fd_survives
  n_survives : Binds K fd_survives ["places", "rows"] []
  g_survives : mg "survives" = some (.ref f_survives)
  f_dual : Addr
  fd_dual : FuncData
  F_dual : Fun K "dual" "dual" st_dual f_dual fd_dual
  n_dual : Binds K fd_dual ["places", "rows"] []
  g_dual : mg "dual" = some (.ref f_dual)
  f_is_within : Addr
  fd_is_within : FuncData
  F_is_within : Fun K "is_within" "is_within" st_is_within f_is_within fd_is_within
  n_is_within : Binds K fd_is_within ["one", "other"] []
  g_is_within : mg "is_within" = some (.ref f_is_within)
  f_majorities : Addr
  fd_majorities : FuncData
  F_majorities : Fun K "majorities" "majorities" st_majorities f_majorities fd_majorities
  n_majorities : Binds K fd_majorities ["weights", "need"] []
  g_majorities : mg "majorities" = some (.ref f_majorities)
  f_busiest : Addr
  fd_busiest : FuncData
  F_busiest : Fun K "busiest" "busiest" st_busiest f_busiest fd_busiest
  n_busiest : Binds K fd_busiest ["places", "rows", "counts"] []
  g_busiest : mg "busiest" = some (.ref f_busiest)
  f__law_begin : Addr
  fd__law_begin : FuncData
  F__law_begin : Fun K "_law_begin" "_law_begin" st__law_begin f__law_begin fd__law_begin
  n__law_begin : Binds K fd__law_begin ["script"] []
  g__law_begin : mg "_law_begin" = some (.ref f__law_begin)
  f__law_take : Addr
  fd__law_take : FuncData
  F__law_take : Fun K "_law_take" "_law_take" st__law_take f__law_take fd__law_take
  n__law_take : Binds K fd__law_take ["d", "many"] []
  g__law_take : mg "_law_take" = some (.ref f__law_take)
  f__law_set : Addr
  fd__law_set : FuncData
  F__law_set : Fun K "_law_set" "_law_set" st__law_set f__law_set fd__law_set
  n__law_set : Binds K fd__law_set ["d", "places"] []
  g__law_set : mg "_law_set" = some (.ref f__law_set)
  f__law_least : Addr
  fd__law_least : FuncData
  F__law_least : Fun K "_law_least" "_law_least" st__law_least f__law_least fd__law_least
  n__law_least : Binds K fd__law_least ["rows"] []
  g__law_least : mg "_law_least" = some (.ref f__law_least)
  f__law_meet : Addr
  fd__law_meet : FuncData
  F__law_meet : Fun K "_law_meet" "_law_meet" st__law_meet f__law_meet fd__law_meet
  n__law_meet : Binds K fd__law_meet ["one", "other"] []
  g__law_meet : mg "_law_meet" = some (.ref f__law_meet)
  f_law : Addr
  fd_law : FuncData
  F_law : Fun K "law" "law" st_law f_law fd_law
  n_law : Binds K fd_law ["script"] []
  g_law : mg "law" = some (.ref f_law)
  x_law : ∀ (s : Shared) (u : Value), BindsTo s fd_law ⟨[u], []⟩ [("script", u)]
  b_abs : mg "abs" = none
  b_all : mg "all" = none
  b_any : mg "any" = none
  b_int : mg "int" = none
  b_len : mg "len" = none
  b_list : mg "list" = none
  b_max : mg "max" = none
  b_min : mg "min" = none
  b_range : mg "range" = none
  b_set : mg "set" = none
  b_sorted : mg "sorted" = none
  b_sum : mg "sum" = none
  b_tuple : mg "tuple" = none
  t_MOST_PLACES : Tok
  c_MOST_PLACES : mg "MOST_PLACES" = some (.int 6 t_MOST_PLACES)
  t_MOST_SETS : Tok
  c_MOST_SETS : mg "MOST_SETS" = some (.int 20 t_MOST_SETS)
theorem emp_map {α β : Type} (f : α → β) (xs : List α) : (xs.map f).isEmpty = xs.isEmpty := by cases xs <;> rfl
theorem all_map {α : Type} (f : α → Bool) (xs : List α) : (xs.map f).all id = xs.all f := by rw [List.all_map]; rfl
theorem any_map' {α : Type} (f : α → Bool) (xs : List α) : (xs.map f).any id = xs.any f := by rw [List.any_map]; rfl
theorem atI_map {α : Type} (f : α → PyData) {xs : List α} {k : Nat} (h : k < xs.length) : atI (xs.map f) (k : Int) = some (f xs[k]) := atI_nat (by rw [List.getElem?_map, List.getElem?_eq_getElem h]; rfl)
theorem atI_ints {xs : List Int} {k : Nat} (h : k < xs.length) : atI (xs.map PyData.int) (k : Int) = some (.int (xs.getD k 0)) := by
  rw [atI_map PyData.int h, List.getD_eq_getElem?_getD, List.getElem?_eq_getElem h]
  rfl
theorem rangeD0 (n : Nat) : rangeD 0 n = (List.range n).map fun (k : Nat) => PyData.int (k : Int) := by
  unfold rangeD
  congr 1
  funext k
  rw [Int.zero_add]
end K75

set_option maxHeartbeats 4000000
namespace K75
open PySem PySem.Spec PyProof.Rows L2 Ab
section
variable {P : Program} {w : World} {K : PySem.W.Frag} {mg : Str → Option Value} {base : Heap}
theorem ok_is_within (D : Defs K mg) : FnOk P w K mg base CX0 1 D.f_is_within D.fd_is_within ["one", "other"] (toSp K sp_is_within) := by
  refine ok_def D.F_is_within sc_is_within (fun oo ds Kc h => ?_) (fun cdv A outer s H E hr =>
      (ss_one (s_ret (e_callB (cr_all rfl) dc_all (by rfl) D.b_all boot_all (e_lc (own := [("place", 2)]) rfl sc_is_within.nd (i_seq (e_name (pv 0))) (blkOk_by (by kernel_rfl)) (fun _ _ _ _ _ => (g_name (pg_name (i := 2) sc_is_within.nd rfl (by first | exact Or.inl rfl | exact Or.inr rfl)))) (fun _ _ _ _ _ => ts_nil) (fun _ _ _ _ _ => (e_cmpS (op_inP hr.units) dr_in (e_name (pv 2)) (e_name (pv 1))))))))) (fun oo ds Kc h => ?_)
  · obtain ⟨a, b, rfl, rfl, _⟩ := h
    rfl
  · obtain ⟨a, b, rfl, rfl, hl, k⟩ := h
    simp only [tI, aName_eq, nm_dat, nm_own, dd_dat, dd_own, bb_bool, arg_dat, arg_own, arg_ali, das_nil, das_dat, cont_list, cont_tup, cont_own, cont_ali, contS_own, ownL_own, ownO_own, stor_dat, stor_own, iD_int, ii_int, i1_int, sAddU_int, sAddU_tup, truS_none, truS_bool, truS_int, truS_list, truS_tup, truS_ali, srcOf_list, srcOf_tup, srcOf_ali, Ab.got_some, gZ_nil, gC_cons, gT_tup, onlyDat_dat, notAli_dat, notAli_own, getO_some, fin_none, fin_some, finO_own, callA_nil, callA_dat, callA_ali, argS_none, argS_some, rt_ad, nx_ad, isN_none, isN_tup, notN_none, notN_tup, aNx, aRet, aIf, aSet, aAug, aDrop, aNever, aC, aBin, aBinR, aUn, aTst, aChain, aNot, aAnd, aOr, aIfE, aAndV, aOrV, aNotV, aNil, aCons, aTup, aLst, aCall1, aCallD, aIx, aApp, aExt, aSetIx, aTru, sLen, sAny, sAll, sSum, sList, sTuple, fI, fC, fB, aSeqI, aRng1, aFor, aFrz, gN, aUnp, aLc, aYes, aCall, aRep, aRgT, turn, wipeA, br_true, br_false, List.map_nil, List.map_cons, List.nil_append, List.cons_append, List.replicate, List.getElem?_cons_zero, List.getElem?_cons_succ, List.set_cons_zero, List.set_cons_succ, List.length_cons, List.length_nil, sIn_int, sNotIn_int, sEq_int, sNe_int, sEq_bool, sNe_bool, sEq_str, aSeq]
    refine lc_map (fun x => .bool (decide (x ∈ b))) trivial (by simp [Ab.freeOf]) (small_len (by omega)) (fun x hx Ka Ks ka => ?_) ?_
    · simp only [aName_eq, nm_dat, nm_own, dd_dat, dd_own, bb_bool, arg_dat, arg_own, arg_ali, das_nil, das_dat, cont_list, cont_tup, cont_own, cont_ali, contS_own, ownL_own, ownO_own, stor_dat, stor_own, iD_int, ii_int, i1_int, sAddU_int, sAddU_tup, truS_none, truS_bool, truS_int, truS_list, truS_tup, truS_ali, srcOf_list, srcOf_tup, srcOf_ali, Ab.got_some, gZ_nil, gC_cons, gT_tup, onlyDat_dat, notAli_dat, notAli_own, getO_some, fin_none, fin_some, finO_own, callA_nil, callA_dat, callA_ali, argS_none, argS_some, rt_ad, nx_ad, isN_none, isN_tup, notN_none, notN_tup, aNx, aRet, aIf, aSet, aAug, aDrop, aNever, aC, aBin, aBinR, aUn, aTst, aChain, aNot, aAnd, aOr, aIfE, aAndV, aOrV, aNotV, aNil, aCons, aTup, aLst, aCall1, aCallD, aIx, aApp, aExt, aSetIx, aTru, sLen, sAny, sAll, sSum, sList, sTuple, fI, fC, fB, aSeqI, aRng1, aFor, aFrz, gN, aUnp, aLc, aYes, aCall, aRep, aRgT, turn, wipeA, br_true, br_false, List.map_nil, List.map_cons, List.nil_append, List.cons_append, List.replicate, List.getElem?_cons_zero, List.getElem?_cons_succ, List.set_cons_zero, List.set_cons_succ, List.length_cons, List.length_nil, sIn_int, sNotIn_int, sEq_int, sNe_int, sEq_bool, sNe_bool, sEq_str, aSeq]
      exact ka
    · simp only [aName_eq, nm_dat, nm_own, dd_dat, dd_own, bb_bool, arg_dat, arg_own, arg_ali, das_nil, das_dat, cont_list, cont_tup, cont_own, cont_ali, contS_own, ownL_own, ownO_own, stor_dat, stor_own, iD_int, ii_int, i1_int, sAddU_int, sAddU_tup, truS_none, truS_bool, truS_int, truS_list, truS_tup, truS_ali, srcOf_list, srcOf_tup, srcOf_ali, Ab.got_some, gZ_nil, gC_cons, gT_tup, onlyDat_dat, notAli_dat, notAli_own, getO_some, fin_none, fin_some, finO_own, callA_nil, callA_dat, callA_ali, argS_none, argS_some, rt_ad, nx_ad, isN_none, isN_tup, notN_none, notN_tup, aNx, aRet, aIf, aSet, aAug, aDrop, aNever, aC, aBin, aBinR, aUn, aTst, aChain, aNot, aAnd, aOr, aIfE, aAndV, aOrV, aNotV, aNil, aCons, aTup, aLst, aCall1, aCallD, aIx, aApp, aExt, aSetIx, aTru, sLen, sAny, sAll, sSum, sList, sTuple, fI, fC, fB, aSeqI, aRng1, aFor, aFrz, gN, aUnp, aLc, aYes, aCall, aRep, aRgT, turn, wipeA, br_true, br_false, List.map_nil, List.map_cons, List.nil_append, List.cons_append, List.replicate, List.getElem?_cons_zero, List.getElem?_cons_succ, List.set_cons_zero, List.set_cons_succ, List.length_cons, List.length_nil, sIn_int, sNotIn_int, sEq_int, sNe_int, sEq_bool, sNe_bool, sEq_str, aSeq, bools_map, all_map]
      exact ⟨trivial, k⟩
theorem ok_apart (D : Defs K mg) : FnOk P w K mg base CX0 1 D.f_apart D.fd_apart ["one", "other"] (toSp K sp_apart) := by
  refine ok_def D.F_apart sc_apart (fun oo ds Kc h => ?_) (fun cdv A outer s H E hr =>
      (ss_one (s_ret (e_not (e_callB (cr_any rfl) dc_any (by rfl) D.b_any boot_any (e_lc (own := [("place", 2)]) rfl sc_apart.nd (i_seq (e_name (pv 0))) (blkOk_by (by kernel_rfl)) (fun _ _ _ _ _ => (g_name (pg_name (i := 2) sc_apart.nd rfl (by first | exact Or.inl rfl | exact Or.inr rfl)))) (fun _ _ _ _ _ => ts_nil) (fun _ _ _ _ _ => (e_cmpS (op_inP hr.units) dr_in (e_name (pv 2)) (e_name (pv 1)))))))))) (fun oo ds Kc h => ?_)
  · obtain ⟨a, b, rfl, rfl, _⟩ := h
    rfl
  · obtain ⟨a, b, rfl, rfl, hl, k⟩ := h
    simp only [tI, aName_eq, nm_dat, nm_own, dd_dat, dd_own, bb_bool, arg_dat, arg_own, arg_ali, das_nil, das_dat, cont_list, cont_tup, cont_own, cont_ali, contS_own, ownL_own, ownO_own, stor_dat, stor_own, iD_int, ii_int, i1_int, sAddU_int, sAddU_tup, truS_none, truS_bool, truS_int, truS_list, truS_tup, truS_ali, srcOf_list, srcOf_tup, srcOf_ali, Ab.got_some, gZ_nil, gC_cons, gT_tup, onlyDat_dat, notAli_dat, notAli_own, getO_some, fin_none, fin_some, finO_own, callA_nil, callA_dat, callA_ali, argS_none, argS_some, rt_ad, nx_ad, isN_none, isN_tup, notN_none, notN_tup, aNx, aRet, aIf, aSet, aAug, aDrop, aNever, aC, aBin, aBinR, aUn, aTst, aChain, aNot, aAnd, aOr, aIfE, aAndV, aOrV, aNotV, aNil, aCons, aTup, aLst, aCall1, aCallD, aIx, aApp, aExt, aSetIx, aTru, sLen, sAny, sAll, sSum, sList, sTuple, fI, fC, fB, aSeqI, aRng1, aFor, aFrz, gN, aUnp, aLc, aYes, aCall, aRep, aRgT, turn, wipeA, br_true, br_false, List.map_nil, List.map_cons, List.nil_append, List.cons_append, List.replicate, List.getElem?_cons_zero, List.getElem?_cons_succ, List.set_cons_zero, List.set_cons_succ, List.length_cons, List.length_nil, sIn_int, sNotIn_int, sEq_int, sNe_int, sEq_bool, sNe_bool, sEq_str, aSeq]
    refine lc_map (fun x => .bool (decide (x ∈ b))) trivial (by simp [Ab.freeOf]) (small_len (by omega)) (fun x hx Ka Ks ka => ?_) ?_
    · simp only [aName_eq, nm_dat, nm_own, dd_dat, dd_own, bb_bool, arg_dat, arg_own, arg_ali, das_nil, das_dat, cont_list, cont_tup, cont_own, cont_ali, contS_own, ownL_own, ownO_own, stor_dat, stor_own, iD_int, ii_int, i1_int, sAddU_int, sAddU_tup, truS_none, truS_bool, truS_int, truS_list, truS_tup, truS_ali, srcOf_list, srcOf_tup, srcOf_ali, Ab.got_some, gZ_nil, gC_cons, gT_tup, onlyDat_dat, notAli_dat, notAli_own, getO_some, fin_none, fin_some, finO_own, callA_nil, callA_dat, callA_ali, argS_none, argS_some, rt_ad, nx_ad, isN_none, isN_tup, notN_none, notN_tup, aNx, aRet, aIf, aSet, aAug, aDrop, aNever, aC, aBin, aBinR, aUn, aTst, aChain, aNot, aAnd, aOr, aIfE, aAndV, aOrV, aNotV, aNil, aCons, aTup, aLst, aCall1, aCallD, aIx, aApp, aExt, aSetIx, aTru, sLen, sAny, sAll, sSum, sList, sTuple, fI, fC, fB, aSeqI, aRng1, aFor, aFrz, gN, aUnp, aLc, aYes, aCall, aRep, aRgT, turn, wipeA, br_true, br_false, List.map_nil, List.map_cons, List.nil_append, List.cons_append, List.replicate, List.getElem?_cons_zero, List.getElem?_cons_succ, List.set_cons_zero, List.set_cons_succ, List.length_cons, List.length_nil, sIn_int, sNotIn_int, sEq_int, sNe_int, sEq_bool, sNe_bool, sEq_str, aSeq]
      exact ka
    · simp only [aName_eq, nm_dat, nm_own, dd_dat, dd_own, bb_bool, arg_dat, arg_own, arg_ali, das_nil, das_dat, cont_list, cont_tup, cont_own, cont_ali, contS_own, ownL_own, ownO_own, stor_dat, stor_own, iD_int, ii_int, i1_int, sAddU_int, sAddU_tup, truS_none, truS_bool, truS_int, truS_list, truS_tup, truS_ali, srcOf_list, srcOf_tup, srcOf_ali, Ab.got_some, gZ_nil, gC_cons, gT_tup, onlyDat_dat, notAli_dat, notAli_own, getO_some, fin_none, fin_some, finO_own, callA_nil, callA_dat, callA_ali, argS_none, argS_some, rt_ad, nx_ad, isN_none, isN_tup, notN_none, notN_tup, aNx, aRet, aIf, aSet, aAug, aDrop, aNever, aC, aBin, aBinR, aUn, aTst, aChain, aNot, aAnd, aOr, aIfE, aAndV, aOrV, aNotV, aNil, aCons, aTup, aLst, aCall1, aCallD, aIx, aApp, aExt, aSetIx, aTru, sLen, sAny, sAll, sSum, sList, sTuple, fI, fC, fB, aSeqI, aRng1, aFor, aFrz, gN, aUnp, aLc, aYes, aCall, aRep, aRgT, turn, wipeA, br_true, br_false, List.map_nil, List.map_cons, List.nil_append, List.cons_append, List.replicate, List.getElem?_cons_zero, List.getElem?_cons_succ, List.set_cons_zero, List.set_cons_succ, List.length_cons, List.length_nil, sIn_int, sNotIn_int, sEq_int, sNe_int, sEq_bool, sNe_bool, sEq_str, aSeq, bools_map, any_map']
      exact ⟨trivial, k⟩
theorem ok_is_hit (D : Defs K mg) : FnOk P w K mg base CX0 1 D.f_is_hit D.fd_is_hit ["row", "down"] (toSp K sp_is_hit) := by
  refine ok_def D.F_is_hit sc_is_hit (fun oo ds Kc h => ?_) (fun cdv A outer s H E hr =>
      (ss_one (s_ret (e_callB (cr_any rfl) dc_any (by rfl) D.b_any boot_any (e_lc (own := [("place", 2)]) rfl sc_is_hit.nd (i_seq (e_name (pv 0))) (blkOk_by (by kernel_rfl)) (fun _ _ _ _ _ => (g_name (pg_name (i := 2) sc_is_hit.nd rfl (by first | exact Or.inl rfl | exact Or.inr rfl)))) (fun _ _ _ _ _ => ts_nil) (fun _ _ _ _ _ => (e_cmpS (op_inP hr.units) dr_in (e_name (pv 2)) (e_name (pv 1))))))))) (fun oo ds Kc h => ?_)
  · obtain ⟨a, b, rfl, rfl, _⟩ := h
    rfl
  · obtain ⟨a, b, rfl, rfl, hl, k⟩ := h
    simp only [tI, aName_eq, nm_dat, nm_own, dd_dat, dd_own, bb_bool, arg_dat, arg_own, arg_ali, das_nil, das_dat, cont_list, cont_tup, cont_own, cont_ali, contS_own, ownL_own, ownO_own, stor_dat, stor_own, iD_int, ii_int, i1_int, sAddU_int, sAddU_tup, truS_none, truS_bool, truS_int, truS_list, truS_tup, truS_ali, srcOf_list, srcOf_tup, srcOf_ali, Ab.got_some, gZ_nil, gC_cons, gT_tup, onlyDat_dat, notAli_dat, notAli_own, getO_some, fin_none, fin_some, finO_own, callA_nil, callA_dat, callA_ali, argS_none, argS_some, rt_ad, nx_ad, isN_none, isN_tup, notN_none, notN_tup, aNx, aRet, aIf, aSet, aAug, aDrop, aNever, aC, aBin, aBinR, aUn, aTst, aChain, aNot, aAnd, aOr, aIfE, aAndV, aOrV, aNotV, aNil, aCons, aTup, aLst, aCall1, aCallD, aIx, aApp, aExt, aSetIx, aTru, sLen, sAny, sAll, sSum, sList, sTuple, fI, fC, fB, aSeqI, aRng1, aFor, aFrz, gN, aUnp, aLc, aYes, aCall, aRep, aRgT, turn, wipeA, br_true, br_false, List.map_nil, List.map_cons, List.nil_append, List.cons_append, List.replicate, List.getElem?_cons_zero, List.getElem?_cons_succ, List.set_cons_zero, List.set_cons_succ, List.length_cons, List.length_nil, sIn_int, sNotIn_int, sEq_int, sNe_int, sEq_bool, sNe_bool, sEq_str, aSeq]
    refine lc_map (fun x => .bool (decide (x ∈ b))) trivial (by simp [Ab.freeOf]) (small_len (by omega)) (fun x hx Ka Ks ka => ?_) ?_
    · simp only [aName_eq, nm_dat, nm_own, dd_dat, dd_own, bb_bool, arg_dat, arg_own, arg_ali, das_nil, das_dat, cont_list, cont_tup, cont_own, cont_ali, contS_own, ownL_own, ownO_own, stor_dat, stor_own, iD_int, ii_int, i1_int, sAddU_int, sAddU_tup, truS_none, truS_bool, truS_int, truS_list, truS_tup, truS_ali, srcOf_list, srcOf_tup, srcOf_ali, Ab.got_some, gZ_nil, gC_cons, gT_tup, onlyDat_dat, notAli_dat, notAli_own, getO_some, fin_none, fin_some, finO_own, callA_nil, callA_dat, callA_ali, argS_none, argS_some, rt_ad, nx_ad, isN_none, isN_tup, notN_none, notN_tup, aNx, aRet, aIf, aSet, aAug, aDrop, aNever, aC, aBin, aBinR, aUn, aTst, aChain, aNot, aAnd, aOr, aIfE, aAndV, aOrV, aNotV, aNil, aCons, aTup, aLst, aCall1, aCallD, aIx, aApp, aExt, aSetIx, aTru, sLen, sAny, sAll, sSum, sList, sTuple, fI, fC, fB, aSeqI, aRng1, aFor, aFrz, gN, aUnp, aLc, aYes, aCall, aRep, aRgT, turn, wipeA, br_true, br_false, List.map_nil, List.map_cons, List.nil_append, List.cons_append, List.replicate, List.getElem?_cons_zero, List.getElem?_cons_succ, List.set_cons_zero, List.set_cons_succ, List.length_cons, List.length_nil, sIn_int, sNotIn_int, sEq_int, sNe_int, sEq_bool, sNe_bool, sEq_str, aSeq]
      exact ka
    · simp only [aName_eq, nm_dat, nm_own, dd_dat, dd_own, bb_bool, arg_dat, arg_own, arg_ali, das_nil, das_dat, cont_list, cont_tup, cont_own, cont_ali, contS_own, ownL_own, ownO_own, stor_dat, stor_own, iD_int, ii_int, i1_int, sAddU_int, sAddU_tup, truS_none, truS_bool, truS_int, truS_list, truS_tup, truS_ali, srcOf_list, srcOf_tup, srcOf_ali, Ab.got_some, gZ_nil, gC_cons, gT_tup, onlyDat_dat, notAli_dat, notAli_own, getO_some, fin_none, fin_some, finO_own, callA_nil, callA_dat, callA_ali, argS_none, argS_some, rt_ad, nx_ad, isN_none, isN_tup, notN_none, notN_tup, aNx, aRet, aIf, aSet, aAug, aDrop, aNever, aC, aBin, aBinR, aUn, aTst, aChain, aNot, aAnd, aOr, aIfE, aAndV, aOrV, aNotV, aNil, aCons, aTup, aLst, aCall1, aCallD, aIx, aApp, aExt, aSetIx, aTru, sLen, sAny, sAll, sSum, sList, sTuple, fI, fC, fB, aSeqI, aRng1, aFor, aFrz, gN, aUnp, aLc, aYes, aCall, aRep, aRgT, turn, wipeA, br_true, br_false, List.map_nil, List.map_cons, List.nil_append, List.cons_append, List.replicate, List.getElem?_cons_zero, List.getElem?_cons_succ, List.set_cons_zero, List.set_cons_succ, List.length_cons, List.length_nil, sIn_int, sNotIn_int, sEq_int, sNe_int, sEq_bool, sNe_bool, sEq_str, aSeq, bools_map, any_map']
      exact ⟨trivial, k⟩
theorem ok__law_meet (D : Defs K mg) : FnOk P w K mg base CX0 1 D.f__law_meet D.fd__law_meet ["one", "other"] (toSp K sp__law_meet) := by
  refine ok_def D.F__law_meet sc__law_meet (fun oo ds Kc h => ?_) (fun cdv A outer s H E hr =>
      (ss_one (s_ret (e_cmp op_gt dr_b (e_callB call_len_seq dc_len (by rfl) D.b_len PySem.boot_len (e_lc (own := [("k", 2)]) rfl sc__law_meet.nd (i_seq (e_name (pv 0))) (blkOk_by (by kernel_rfl)) (fun _ _ _ _ _ => (g_name (pg_name (i := 2) sc__law_meet.nd rfl (by first | exact Or.inl rfl | exact Or.inr rfl)))) (fun _ _ _ _ _ => (ts_one (t_cmpS (op_inP hr.units) dr_in (e_name (pv 2)) (e_name (pv 1))))) (fun _ _ _ _ _ => (e_name (pv 2))))) e_int (nomark _))))) (fun oo ds Kc h => ?_)
  · obtain ⟨a, b, rfl, rfl, _⟩ := h
    rfl
  · obtain ⟨a, b, rfl, rfl, hl, k⟩ := h
    simp only [tI, aName_eq, nm_dat, nm_own, dd_dat, dd_own, bb_bool, arg_dat, arg_own, arg_ali, das_nil, das_dat, cont_list, cont_tup, cont_own, cont_ali, contS_own, ownL_own, ownO_own, stor_dat, stor_own, iD_int, ii_int, i1_int, sAddU_int, sAddU_tup, truS_none, truS_bool, truS_int, truS_list, truS_tup, truS_ali, srcOf_list, srcOf_tup, srcOf_ali, Ab.got_some, gZ_nil, gC_cons, gT_tup, onlyDat_dat, notAli_dat, notAli_own, getO_some, fin_none, fin_some, finO_own, callA_nil, callA_dat, callA_ali, argS_none, argS_some, rt_ad, nx_ad, isN_none, isN_tup, notN_none, notN_tup, aNx, aRet, aIf, aSet, aAug, aDrop, aNever, aC, aBin, aBinR, aUn, aTst, aChain, aNot, aAnd, aOr, aIfE, aAndV, aOrV, aNotV, aNil, aCons, aTup, aLst, aCall1, aCallD, aIx, aApp, aExt, aSetIx, aTru, sLen, sAny, sAll, sSum, sList, sTuple, fI, fC, fB, aSeqI, aRng1, aFor, aFrz, gN, aUnp, aLc, aYes, aCall, aRep, aRgT, turn, wipeA, br_true, br_false, List.map_nil, List.map_cons, List.nil_append, List.cons_append, List.replicate, List.getElem?_cons_zero, List.getElem?_cons_succ, List.set_cons_zero, List.set_cons_succ, List.length_cons, List.length_nil, sIn_int, sNotIn_int, sEq_int, sNe_int, sEq_bool, sNe_bool, sEq_str, aSeq]
    refine lc_pure (fun x => decide (x ∈ b)) (fun x => .int x) trivial (by simp [Ab.freeOf]) (small_len (by omega)) (fun x hx Ka Ks ka ks => ?_) ?_
    · simp only [aName_eq, nm_dat, nm_own, dd_dat, dd_own, bb_bool, arg_dat, arg_own, arg_ali, das_nil, das_dat, cont_list, cont_tup, cont_own, cont_ali, contS_own, ownL_own, ownO_own, stor_dat, stor_own, iD_int, ii_int, i1_int, sAddU_int, sAddU_tup, truS_none, truS_bool, truS_int, truS_list, truS_tup, truS_ali, srcOf_list, srcOf_tup, srcOf_ali, Ab.got_some, gZ_nil, gC_cons, gT_tup, onlyDat_dat, notAli_dat, notAli_own, getO_some, fin_none, fin_some, finO_own, callA_nil, callA_dat, callA_ali, argS_none, argS_some, rt_ad, nx_ad, isN_none, isN_tup, notN_none, notN_tup, aNx, aRet, aIf, aSet, aAug, aDrop, aNever, aC, aBin, aBinR, aUn, aTst, aChain, aNot, aAnd, aOr, aIfE, aAndV, aOrV, aNotV, aNil, aCons, aTup, aLst, aCall1, aCallD, aIx, aApp, aExt, aSetIx, aTru, sLen, sAny, sAll, sSum, sList, sTuple, fI, fC, fB, aSeqI, aRng1, aFor, aFrz, gN, aUnp, aLc, aYes, aCall, aRep, aRgT, turn, wipeA, br_true, br_false, List.map_nil, List.map_cons, List.nil_append, List.cons_append, List.replicate, List.getElem?_cons_zero, List.getElem?_cons_succ, List.set_cons_zero, List.set_cons_succ, List.length_cons, List.length_nil, sIn_int, sNotIn_int, sEq_int, sNe_int, sEq_bool, sNe_bool, sEq_str, aSeq]
      exact ⟨ka, ks⟩
    · simp only [aName_eq, nm_dat, nm_own, dd_dat, dd_own, bb_bool, arg_dat, arg_own, arg_ali, das_nil, das_dat, cont_list, cont_tup, cont_own, cont_ali, contS_own, ownL_own, ownO_own, stor_dat, stor_own, iD_int, ii_int, i1_int, sAddU_int, sAddU_tup, truS_none, truS_bool, truS_int, truS_list, truS_tup, truS_ali, srcOf_list, srcOf_tup, srcOf_ali, Ab.got_some, gZ_nil, gC_cons, gT_tup, onlyDat_dat, notAli_dat, notAli_own, getO_some, fin_none, fin_some, finO_own, callA_nil, callA_dat, callA_ali, argS_none, argS_some, rt_ad, nx_ad, isN_none, isN_tup, notN_none, notN_tup, aNx, aRet, aIf, aSet, aAug, aDrop, aNever, aC, aBin, aBinR, aUn, aTst, aChain, aNot, aAnd, aOr, aIfE, aAndV, aOrV, aNotV, aNil, aCons, aTup, aLst, aCall1, aCallD, aIx, aApp, aExt, aSetIx, aTru, sLen, sAny, sAll, sSum, sList, sTuple, fI, fC, fB, aSeqI, aRng1, aFor, aFrz, gN, aUnp, aLc, aYes, aCall, aRep, aRgT, turn, wipeA, br_true, br_false, List.map_nil, List.map_cons, List.nil_append, List.cons_append, List.replicate, List.getElem?_cons_zero, List.getElem?_cons_succ, List.set_cons_zero, List.set_cons_succ, List.length_cons, List.length_nil, sIn_int, sNotIn_int, sEq_int, sNe_int, sEq_bool, sNe_bool, sEq_str, aSeq, List.length_map]
      have e : decide ((0 : Int) < ((a.filter fun x => decide (x ∈ b)).length : Int)) = hit a b := by
        rw [Bool.eq_iff_iff, decide_eq_true_eq]
        unfold hit
        rw [List.any_eq_true]
        constructor
        · intro h
          have h : 0 < (a.filter fun x => decide (x ∈ b)).length := by omega
          obtain ⟨x, hx⟩ := List.exists_mem_of_length_pos h
          exact ⟨x, (List.mem_filter.mp hx).1, (List.mem_filter.mp hx).2⟩
        · rintro ⟨x, h1, h2⟩
          have := List.length_pos_of_mem (List.mem_filter.mpr ⟨h1, h2⟩ : x ∈ a.filter fun x => decide (x ∈ b))
          omega
      rw [e]
      exact k
end
end K75

set_option maxHeartbeats 4000000
namespace K75
open PySem PySem.Spec PyProof.Rows L2 Ab
section
variable {P : Program} {w : World} {K : PySem.W.Frag} {mg : Str → Option Value} {base : Heap}
theorem ok_check_quorums (D : Defs K mg) : FnOk P w K mg base CX0 1 D.f_check_quorums D.fd_check_quorums ["places", "writes", "reads"] (toSp K sp_check_quorums) := by
  refine ok_def D.F_check_quorums sc_check_quorums (fun oo ds Kc h => ?_) (fun cdv A outer s H E hr =>
      (ss_cons (s_if (t_not (t_chain op_le dr_b op_le dr_b e_int (e_name (pv 0)) (e_globI (by rfl) D.c_MOST_PLACES))) ss_never ss_nil)
      (ss_one (s_for PassesOwn.never rfl (i_seq (e_tup (x_cons (e_name (pv 1)) (x_cons (e_name (pv 2)) x_nil)))) (g_name (pg_name (i := 3) sc_check_quorums.nd rfl (.inl rfl))) (ss_cons (s_if (t_not (t_chain op_le dr_b op_le dr_b e_int (e_callB call_len_seq dc_len (by rfl) D.b_len PySem.boot_len (e_name (pv 3))) (e_globI (by rfl) D.c_MOST_SETS))) ss_never ss_nil)
      (ss_one (s_for PassesOwn.never rfl (i_seq (e_name (pv 3))) (g_name (pg_name (i := 4) sc_check_quorums.nd rfl (.inr rfl))) (ss_cons (s_set (ps_set (i := 5) sc_check_quorums.nd rfl (.inl rfl) (e_callB (cr_all rfl) dc_all (by rfl) D.b_all boot_all (e_lc (own := [("k", 6)]) rfl sc_check_quorums.nd (i_rng1 (by rfl) D.b_range (e_op op_sub dr_i (e_callB call_len_seq dc_len (by rfl) D.b_len PySem.boot_len (e_name (pv 4))) e_int)) (blkOk_by (by kernel_rfl)) (fun _ _ _ _ _ => (g_name (pg_name (i := 6) sc_check_quorums.nd rfl (by first | exact Or.inl rfl | exact Or.inr rfl)))) (fun _ _ _ _ _ => ts_nil) (fun _ _ _ _ _ => (e_cmp op_lt dr_b (e_ix (e_name (pv 4)) (e_name (pv 6))) (e_ix (e_name (pv 4)) (e_op op_addU dr_addU (e_name (pv 6)) e_int)) (nomark _)))))))
      (ss_one (s_if (t_w (w_orC (t_not (t_truth (e_name (pv 4)))) (w_orC (t_not (t_truth (e_name (pv 5)))) (w_or1 (t_not (t_truth (e_callB (cr_all rfl) dc_all (by rfl) D.b_all boot_all (e_lc (own := [("place", 7)]) rfl sc_check_quorums.nd (i_seq (e_name (pv 4))) (blkOk_by (by kernel_rfl)) (fun _ _ _ _ _ => (g_name (pg_name (i := 7) sc_check_quorums.nd rfl (by first | exact Or.inl rfl | exact Or.inr rfl)))) (fun _ _ _ _ _ => ts_nil) (fun _ _ _ _ _ => (e_chain op_le dr_b op_lt dr_b e_int (e_name (pv 7)) (e_name (pv 0)))))))))))) ss_never ss_nil)))))))))) (fun oo ds Kc h => ?_)
  · obtain ⟨p, w, r, rfl, rfl, _⟩ := h
    rfl
  · obtain ⟨p, w, r, rfl, rfl, hw, hr, k⟩ := h
    simp only [aName_eq, nm_dat, nm_own, dd_dat, dd_own, bb_bool, arg_dat, arg_own, arg_ali, das_nil, das_dat, cont_list, cont_tup, cont_own, cont_ali, contS_own, ownL_own, ownO_own, stor_dat, stor_own, iD_int, ii_int, i1_int, sAddU_int, sAddU_tup, truS_none, truS_bool, truS_int, truS_list, truS_tup, truS_ali, srcOf_list, srcOf_tup, srcOf_ali, Ab.got_some, gZ_nil, gC_cons, gT_tup, onlyDat_dat, notAli_dat, notAli_own, getO_some, fin_none, fin_some, finO_own, callA_nil, callA_dat, callA_ali, argS_none, argS_some, rt_ad, nx_ad, isN_none, isN_tup, notN_none, notN_tup, aNx, aRet, aIf, aSet, aAug, aDrop, aNever, aC, aBin, aBinR, aUn, aTst, aChain, aNot, aAnd, aOr, aIfE, aAndV, aOrV, aNotV, aNil, aCons, aTup, aLst, aCall1, aCallD, aIx, aApp, aExt, aSetIx, aTru, sLen, sAny, sAll, sSum, sList, sTuple, fI, fC, fB, aSeqI, aRng1, aFor, aFrz, gN, aUnp, aLc, aYes, aCall, aRep, aRgT, turn, wipeA, br_true, br_false, List.map_nil, List.map_cons, List.nil_append, List.cons_append, List.replicate, List.getElem?_cons_zero, List.getElem?_cons_succ, List.set_cons_zero, List.set_cons_succ, List.length_cons, List.length_nil, sIn_int, sNotIn_int, sEq_int, sNe_int, sEq_bool, sNe_bool, sEq_str, aSeq]
    have h1 := hw.lo
    have h2 := hw.hi
    simp only [h1, h2, decide_true, br_true, br_false, Bool.not_true]
    refine ⟨small_le (by decide), trivial, fun _ => trivial, ?_⟩
    refine for_inv (enc := eR) (xs := [w, r]) (fun _ ρ => ∃ x3 x4 x5, ρ = [some (.dat (.int p)), some (.dat (eR w)), some (.dat (eR r)), x3, x4, x5, none, none]) ⟨none, none, none, rfl⟩ ?_ (fun ρ' _ => k)
    rintro pre q post e ρ ⟨x3, x4, x5, rfl⟩ Kn kn
    have hq : OkSets p q := by
      have : q ∈ [w, r] := by rw [e]; simp
      rcases List.mem_cons.mp this with rfl | h
      · exact hw
      · rw [List.mem_singleton.mp h]
        exact hr
    have h3 : (1 : Int) ≤ (q.length : Int) := by have := hq.one; omega
    have h4 : (q.length : Int) ≤ 20 := by have := hq.few; omega
    simp only [eR, List.length_map, h3, h4, decide_true, Bool.not_true, aName_eq, nm_dat, nm_own, dd_dat, dd_own, bb_bool, arg_dat, arg_own, arg_ali, das_nil, das_dat, cont_list, cont_tup, cont_own, cont_ali, contS_own, ownL_own, ownO_own, stor_dat, stor_own, iD_int, ii_int, i1_int, sAddU_int, sAddU_tup, truS_none, truS_bool, truS_int, truS_list, truS_tup, truS_ali, srcOf_list, srcOf_tup, srcOf_ali, Ab.got_some, gZ_nil, gC_cons, gT_tup, onlyDat_dat, notAli_dat, notAli_own, getO_some, fin_none, fin_some, finO_own, callA_nil, callA_dat, callA_ali, argS_none, argS_some, rt_ad, nx_ad, isN_none, isN_tup, notN_none, notN_tup, aNx, aRet, aIf, aSet, aAug, aDrop, aNever, aC, aBin, aBinR, aUn, aTst, aChain, aNot, aAnd, aOr, aIfE, aAndV, aOrV, aNotV, aNil, aCons, aTup, aLst, aCall1, aCallD, aIx, aApp, aExt, aSetIx, aTru, sLen, sAny, sAll, sSum, sList, sTuple, fI, fC, fB, aSeqI, aRng1, aFor, aFrz, gN, aUnp, aLc, aYes, aCall, aRep, aRgT, turn, wipeA, br_true, br_false, List.map_nil, List.map_cons, List.nil_append, List.cons_append, List.replicate, List.getElem?_cons_zero, List.getElem?_cons_succ, List.set_cons_zero, List.set_cons_succ, List.length_cons, List.length_nil, sIn_int, sNotIn_int, sEq_int, sNe_int, sEq_bool, sNe_bool, sEq_str, aSeq]
    refine ⟨trivial, fun _ => trivial, ?_⟩
    refine for_inv (enc := tI) (fun _ ρ => ∃ x4 x5, ρ = [some (.dat (.int p)), some (.dat (eR w)), some (.dat (eR r)), some (.dat (eR q)), x4, x5, none, none]) ⟨_, _, rfl⟩ ?_ (fun ρ' ⟨x4, x5, e⟩ => by subst e; exact kn _ ⟨_, _, _, rfl⟩)
    rintro pre2 row post2 e2 ρ ⟨x4, x5, rfl⟩ Kn2 kn2
    have hrow : OkSet p row := hq.each row (by rw [e2]; simp)
    have h5 : row.length ≤ 6 := by
      have := hrow.len
      omega
    simp only [tI, eR, List.length_map, aName_eq, nm_dat, nm_own, dd_dat, dd_own, bb_bool, arg_dat, arg_own, arg_ali, das_nil, das_dat, cont_list, cont_tup, cont_own, cont_ali, contS_own, ownL_own, ownO_own, stor_dat, stor_own, iD_int, ii_int, i1_int, sAddU_int, sAddU_tup, truS_none, truS_bool, truS_int, truS_list, truS_tup, truS_ali, srcOf_list, srcOf_tup, srcOf_ali, Ab.got_some, gZ_nil, gC_cons, gT_tup, onlyDat_dat, notAli_dat, notAli_own, getO_some, fin_none, fin_some, finO_own, callA_nil, callA_dat, callA_ali, argS_none, argS_some, rt_ad, nx_ad, isN_none, isN_tup, notN_none, notN_tup, aNx, aRet, aIf, aSet, aAug, aDrop, aNever, aC, aBin, aBinR, aUn, aTst, aChain, aNot, aAnd, aOr, aIfE, aAndV, aOrV, aNotV, aNil, aCons, aTup, aLst, aCall1, aCallD, aIx, aApp, aExt, aSetIx, aTru, sLen, sAny, sAll, sSum, sList, sTuple, fI, fC, fB, aSeqI, aRng1, aFor, aFrz, gN, aUnp, aLc, aYes, aCall, aRep, aRgT, turn, wipeA, br_true, br_false, List.map_nil, List.map_cons, List.nil_append, List.cons_append, List.replicate, List.getElem?_cons_zero, List.getElem?_cons_succ, List.set_cons_zero, List.set_cons_succ, List.length_cons, List.length_nil, sIn_int, sNotIn_int, sEq_int, sNe_int, sEq_bool, sNe_bool, sEq_str, aSeq]
    refine ⟨by omega, by omega, ?_⟩
    rw [rangeD0]
    refine lc_map (fun k => .bool (decide (row.getD k 0 < row.getD (k + 1) 0))) trivial (by simp [Ab.freeOf]) (small_len (by simp; omega)) (fun x hx Ka Ks ka => ?_) ?_
    · have hx : x + 1 < row.length := by
        have := List.mem_range.mp hx
        omega
      have e3 : ((x : Int) + 1) = ((x + 1 : Nat) : Int) := by omega
      simp only [aName_eq, nm_dat, nm_own, dd_dat, dd_own, bb_bool, arg_dat, arg_own, arg_ali, das_nil, das_dat, cont_list, cont_tup, cont_own, cont_ali, contS_own, ownL_own, ownO_own, stor_dat, stor_own, iD_int, ii_int, i1_int, sAddU_int, sAddU_tup, truS_none, truS_bool, truS_int, truS_list, truS_tup, truS_ali, srcOf_list, srcOf_tup, srcOf_ali, Ab.got_some, gZ_nil, gC_cons, gT_tup, onlyDat_dat, notAli_dat, notAli_own, getO_some, fin_none, fin_some, finO_own, callA_nil, callA_dat, callA_ali, argS_none, argS_some, rt_ad, nx_ad, isN_none, isN_tup, notN_none, notN_tup, aNx, aRet, aIf, aSet, aAug, aDrop, aNever, aC, aBin, aBinR, aUn, aTst, aChain, aNot, aAnd, aOr, aIfE, aAndV, aOrV, aNotV, aNil, aCons, aTup, aLst, aCall1, aCallD, aIx, aApp, aExt, aSetIx, aTru, sLen, sAny, sAll, sSum, sList, sTuple, fI, fC, fB, aSeqI, aRng1, aFor, aFrz, gN, aUnp, aLc, aYes, aCall, aRep, aRgT, turn, wipeA, br_true, br_false, List.map_nil, List.map_cons, List.nil_append, List.cons_append, List.replicate, List.getElem?_cons_zero, List.getElem?_cons_succ, List.set_cons_zero, List.set_cons_succ, List.length_cons, List.length_nil, sIn_int, sNotIn_int, sEq_int, sNe_int, sEq_bool, sNe_bool, sEq_str, aSeq]
      rw [e3, atI_ints hx, atI_ints (by omega)]
      exact ka
    · simp only [bools_map, all_map, aName_eq, nm_dat, nm_own, dd_dat, dd_own, bb_bool, arg_dat, arg_own, arg_ali, das_nil, das_dat, cont_list, cont_tup, cont_own, cont_ali, contS_own, ownL_own, ownO_own, stor_dat, stor_own, iD_int, ii_int, i1_int, sAddU_int, sAddU_tup, truS_none, truS_bool, truS_int, truS_list, truS_tup, truS_ali, srcOf_list, srcOf_tup, srcOf_ali, Ab.got_some, gZ_nil, gC_cons, gT_tup, onlyDat_dat, notAli_dat, notAli_own, getO_some, fin_none, fin_some, finO_own, callA_nil, callA_dat, callA_ali, argS_none, argS_some, rt_ad, nx_ad, isN_none, isN_tup, notN_none, notN_tup, aNx, aRet, aIf, aSet, aAug, aDrop, aNever, aC, aBin, aBinR, aUn, aTst, aChain, aNot, aAnd, aOr, aIfE, aAndV, aOrV, aNotV, aNil, aCons, aTup, aLst, aCall1, aCallD, aIx, aApp, aExt, aSetIx, aTru, sLen, sAny, sAll, sSum, sList, sTuple, fI, fC, fB, aSeqI, aRng1, aFor, aFrz, gN, aUnp, aLc, aYes, aCall, aRep, aRgT, turn, wipeA, br_true, br_false, List.map_nil, List.map_cons, List.nil_append, List.cons_append, List.replicate, List.getElem?_cons_zero, List.getElem?_cons_succ, List.set_cons_zero, List.set_cons_succ, List.length_cons, List.length_nil, sIn_int, sNotIn_int, sEq_int, sNe_int, sEq_bool, sNe_bool, sEq_str, aSeq]
      have e5 : (!row.isEmpty) = true := by
        cases row with
        | nil => exact absurd rfl hrow.ne
        | cons _ _ => rfl
      have e6 : ((List.range ((row.length : Int) - 1).toNat).all fun x => decide (row.getD x 0 < row.getD (x + 1) 0)) = true := by
        rw [List.all_eq_true]
        intro x hx
        have hx : x + 1 < row.length := by
          have := List.mem_range.mp hx
          omega
        rw [decide_eq_true_eq, List.getD_eq_getElem?_getD, List.getD_eq_getElem?_getD, List.getElem?_eq_getElem hx, List.getElem?_eq_getElem (by omega : x < row.length)]
        exact List.pairwise_iff_getElem.mp hrow.asc x (x + 1) (by omega) hx (by omega)
      simp only [emp_map, e5, e6, Bool.not_true, aName_eq, nm_dat, nm_own, dd_dat, dd_own, bb_bool, arg_dat, arg_own, arg_ali, das_nil, das_dat, cont_list, cont_tup, cont_own, cont_ali, contS_own, ownL_own, ownO_own, stor_dat, stor_own, iD_int, ii_int, i1_int, sAddU_int, sAddU_tup, truS_none, truS_bool, truS_int, truS_list, truS_tup, truS_ali, srcOf_list, srcOf_tup, srcOf_ali, Ab.got_some, gZ_nil, gC_cons, gT_tup, onlyDat_dat, notAli_dat, notAli_own, getO_some, fin_none, fin_some, finO_own, callA_nil, callA_dat, callA_ali, argS_none, argS_some, rt_ad, nx_ad, isN_none, isN_tup, notN_none, notN_tup, aNx, aRet, aIf, aSet, aAug, aDrop, aNever, aC, aBin, aBinR, aUn, aTst, aChain, aNot, aAnd, aOr, aIfE, aAndV, aOrV, aNotV, aNil, aCons, aTup, aLst, aCall1, aCallD, aIx, aApp, aExt, aSetIx, aTru, sLen, sAny, sAll, sSum, sList, sTuple, fI, fC, fB, aSeqI, aRng1, aFor, aFrz, gN, aUnp, aLc, aYes, aCall, aRep, aRgT, turn, wipeA, br_true, br_false, List.map_nil, List.map_cons, List.nil_append, List.cons_append, List.replicate, List.getElem?_cons_zero, List.getElem?_cons_succ, List.set_cons_zero, List.set_cons_succ, List.length_cons, List.length_nil, sIn_int, sNotIn_int, sEq_int, sNe_int, sEq_bool, sNe_bool, sEq_str, aSeq]
      refine ⟨trivial, ?_⟩
      refine lc_map (fun x => .bool true) trivial (by simp [Ab.freeOf]) (small_len (by omega)) (fun x hx Ka Ks ka => ?_) ?_
      · obtain ⟨g1, g2⟩ := hrow.rng x hx
        simp only [g1, g2, decide_true, aName_eq, nm_dat, nm_own, dd_dat, dd_own, bb_bool, arg_dat, arg_own, arg_ali, das_nil, das_dat, cont_list, cont_tup, cont_own, cont_ali, contS_own, ownL_own, ownO_own, stor_dat, stor_own, iD_int, ii_int, i1_int, sAddU_int, sAddU_tup, truS_none, truS_bool, truS_int, truS_list, truS_tup, truS_ali, srcOf_list, srcOf_tup, srcOf_ali, Ab.got_some, gZ_nil, gC_cons, gT_tup, onlyDat_dat, notAli_dat, notAli_own, getO_some, fin_none, fin_some, finO_own, callA_nil, callA_dat, callA_ali, argS_none, argS_some, rt_ad, nx_ad, isN_none, isN_tup, notN_none, notN_tup, aNx, aRet, aIf, aSet, aAug, aDrop, aNever, aC, aBin, aBinR, aUn, aTst, aChain, aNot, aAnd, aOr, aIfE, aAndV, aOrV, aNotV, aNil, aCons, aTup, aLst, aCall1, aCallD, aIx, aApp, aExt, aSetIx, aTru, sLen, sAny, sAll, sSum, sList, sTuple, fI, fC, fB, aSeqI, aRng1, aFor, aFrz, gN, aUnp, aLc, aYes, aCall, aRep, aRgT, turn, wipeA, br_true, br_false, List.map_nil, List.map_cons, List.nil_append, List.cons_append, List.replicate, List.getElem?_cons_zero, List.getElem?_cons_succ, List.set_cons_zero, List.set_cons_succ, List.length_cons, List.length_nil, sIn_int, sNotIn_int, sEq_int, sNe_int, sEq_bool, sNe_bool, sEq_str, aSeq]
        exact ka
      · rw [show (row.map fun _ => PyData.bool true) = row.map fun x => PyData.bool ((fun _ => true) x) from rfl, bools_map]
        have e7 : (row.map fun _ : Int => true).all id = true := by simp
        simp only [e7, Bool.not_true, aName_eq, nm_dat, nm_own, dd_dat, dd_own, bb_bool, arg_dat, arg_own, arg_ali, das_nil, das_dat, cont_list, cont_tup, cont_own, cont_ali, contS_own, ownL_own, ownO_own, stor_dat, stor_own, iD_int, ii_int, i1_int, sAddU_int, sAddU_tup, truS_none, truS_bool, truS_int, truS_list, truS_tup, truS_ali, srcOf_list, srcOf_tup, srcOf_ali, Ab.got_some, gZ_nil, gC_cons, gT_tup, onlyDat_dat, notAli_dat, notAli_own, getO_some, fin_none, fin_some, finO_own, callA_nil, callA_dat, callA_ali, argS_none, argS_some, rt_ad, nx_ad, isN_none, isN_tup, notN_none, notN_tup, aNx, aRet, aIf, aSet, aAug, aDrop, aNever, aC, aBin, aBinR, aUn, aTst, aChain, aNot, aAnd, aOr, aIfE, aAndV, aOrV, aNotV, aNil, aCons, aTup, aLst, aCall1, aCallD, aIx, aApp, aExt, aSetIx, aTru, sLen, sAny, sAll, sSum, sList, sTuple, fI, fC, fB, aSeqI, aRng1, aFor, aFrz, gN, aUnp, aLc, aYes, aCall, aRep, aRgT, turn, wipeA, br_true, br_false, List.map_nil, List.map_cons, List.nil_append, List.cons_append, List.replicate, List.getElem?_cons_zero, List.getElem?_cons_succ, List.set_cons_zero, List.set_cons_succ, List.length_cons, List.length_nil, sIn_int, sNotIn_int, sEq_int, sNe_int, sEq_bool, sNe_bool, sEq_str, aSeq]
        exact ⟨trivial, kn2 _ ⟨_, _, rfl⟩⟩
end
end K75

set_option maxHeartbeats 4000000
namespace K75
open PySem PySem.Spec PyProof.Rows L2 Ab
section
variable {P : Program} {w : World} {K : PySem.W.Frag} {mg : Str → Option Value} {base : Heap}
theorem ok_clash (D : Defs K mg) : FnOk P w K mg base CX0 2 D.f_clash D.fd_clash ["places", "writes", "reads"] (toSp K sp_clash) := by
  have G_check_quorums : FnOk P w K mg base CX0 1 D.f_check_quorums D.fd_check_quorums ["places", "writes", "reads"] (toSp K sp_check_quorums) := ok_check_quorums D
  have G_apart : FnOk P w K mg base CX0 1 D.f_apart D.fd_apart ["one", "other"] (toSp K sp_apart) := ok_apart D
  refine ok_def D.F_clash sc_clash (fun oo ds Kc h => ?_) (fun cdv A outer s H E hr =>
      (ss_cons (s_expr (e_call G_check_quorums (hr.mono (by decide)) (by rfl) D.g_check_quorums D.F_check_quorums.kp D.n_check_quorums (x_cons (e_name (pv 0)) (x_cons (e_name (pv 1)) (x_cons (e_name (pv 2)) x_nil)))))
      (ss_cons (s_for PassesOwn.never rfl (i_seq (e_name (pv 1))) (g_name (pg_name (i := 3) sc_clash.nd rfl (.inl rfl))) (ss_one (s_for PassesOwn.never rfl (i_seq (e_name (pv 2))) (g_name (pg_name (i := 4) sc_clash.nd rfl (.inl rfl))) (ss_one (s_if (t_truth (e_call G_apart (hr.mono (by decide)) (by rfl) D.g_apart D.F_apart.kp D.n_apart (x_cons (e_name (pv 3)) (x_cons (e_name (pv 4)) x_nil)))) (ss_one (s_ret (e_tup (x_cons e_str (x_cons (e_name (pv 3)) (x_cons (e_name (pv 4)) x_nil)))))) ss_nil)))))
      (ss_cons (s_for PassesOwn.never rfl (i_seq (e_name (pv 1))) (g_name (pg_name (i := 3) sc_clash.nd rfl (.inl rfl))) (ss_one (s_for PassesOwn.never rfl (i_seq (e_name (pv 1))) (g_name (pg_name (i := 4) sc_clash.nd rfl (.inl rfl))) (ss_one (s_if (t_truth (e_call G_apart (hr.mono (by decide)) (by rfl) D.g_apart D.F_apart.kp D.n_apart (x_cons (e_name (pv 3)) (x_cons (e_name (pv 4)) x_nil)))) (ss_one (s_ret (e_tup (x_cons e_str (x_cons (e_name (pv 3)) (x_cons (e_name (pv 4)) x_nil)))))) ss_nil)))))
      (ss_one (s_ret e_non)))))) (fun oo ds Kc h => ?_)
  · obtain ⟨p, w, r, rfl, rfl, _⟩ := h
    rfl
  · obtain ⟨p, w, r, rfl, rfl, hw, hr, k⟩ := h
    have h2 := hw.hi
    simp only [aName_eq, nm_dat, nm_own, dd_dat, dd_own, bb_bool, arg_dat, arg_own, arg_ali, das_nil, das_dat, cont_list, cont_tup, cont_own, cont_ali, contS_own, ownL_own, ownO_own, stor_dat, stor_own, iD_int, ii_int, i1_int, sAddU_int, sAddU_tup, truS_none, truS_bool, truS_int, truS_list, truS_tup, truS_ali, srcOf_list, srcOf_tup, srcOf_ali, Ab.got_some, gZ_nil, gC_cons, gT_tup, onlyDat_dat, notAli_dat, notAli_own, getO_some, fin_none, fin_some, finO_own, callA_nil, callA_dat, callA_ali, argS_none, argS_some, rt_ad, nx_ad, isN_none, isN_tup, notN_none, notN_tup, aNx, aRet, aIf, aSet, aAug, aDrop, aNever, aC, aBin, aBinR, aUn, aTst, aChain, aNot, aAnd, aOr, aIfE, aAndV, aOrV, aNotV, aNil, aCons, aTup, aLst, aCall1, aCallD, aIx, aApp, aExt, aSetIx, aTru, sLen, sAny, sAll, sSum, sList, sTuple, fI, fC, fB, aSeqI, aRng1, aFor, aFrz, gN, aUnp, aLc, aYes, aCall, aRep, aRgT, turn, wipeA, br_true, br_false, List.map_nil, List.map_cons, List.nil_append, List.cons_append, List.replicate, List.getElem?_cons_zero, List.getElem?_cons_succ, List.set_cons_zero, List.set_cons_succ, List.length_cons, List.length_nil, sIn_int, sNotIn_int, sEq_int, sNe_int, sEq_bool, sNe_bool, sEq_str, aSeq]
    refine ⟨p, w, r, rfl, rfl, hw, hr, rfl, trivial, fun _ => trivial, ?_⟩
    refine for_inv (enc := tI) (xs := w) (fun pre ρ => (∀ v ∈ pre, ∀ q ∈ r, hit v q = true) ∧ ∃ x3 x4, ρ = [some (.dat (.int p)), some (.dat (eR w)), some (.dat (eR r)), x3, x4]) ⟨fun _ z => (nomatch z), _, _, rfl⟩ ?_ ?_
    · rintro pre a post e ρ ⟨hp, x3, x4, rfl⟩ Kn kn
      have ha : OkSet p a := hw.each a (by rw [e]; simp)
      have hal := ha.len
      simp only [eR, aName_eq, nm_dat, nm_own, dd_dat, dd_own, bb_bool, arg_dat, arg_own, arg_ali, das_nil, das_dat, cont_list, cont_tup, cont_own, cont_ali, contS_own, ownL_own, ownO_own, stor_dat, stor_own, iD_int, ii_int, i1_int, sAddU_int, sAddU_tup, truS_none, truS_bool, truS_int, truS_list, truS_tup, truS_ali, srcOf_list, srcOf_tup, srcOf_ali, Ab.got_some, gZ_nil, gC_cons, gT_tup, onlyDat_dat, notAli_dat, notAli_own, getO_some, fin_none, fin_some, finO_own, callA_nil, callA_dat, callA_ali, argS_none, argS_some, rt_ad, nx_ad, isN_none, isN_tup, notN_none, notN_tup, aNx, aRet, aIf, aSet, aAug, aDrop, aNever, aC, aBin, aBinR, aUn, aTst, aChain, aNot, aAnd, aOr, aIfE, aAndV, aOrV, aNotV, aNil, aCons, aTup, aLst, aCall1, aCallD, aIx, aApp, aExt, aSetIx, aTru, sLen, sAny, sAll, sSum, sList, sTuple, fI, fC, fB, aSeqI, aRng1, aFor, aFrz, gN, aUnp, aLc, aYes, aCall, aRep, aRgT, turn, wipeA, br_true, br_false, List.map_nil, List.map_cons, List.nil_append, List.cons_append, List.replicate, List.getElem?_cons_zero, List.getElem?_cons_succ, List.set_cons_zero, List.set_cons_succ, List.length_cons, List.length_nil, sIn_int, sNotIn_int, sEq_int, sNe_int, sEq_bool, sNe_bool, sEq_str, aSeq]
      refine ⟨trivial, fun _ => trivial, ?_⟩
      refine for_inv (enc := tI) (xs := r) (fun pre2 ρ => (∀ q ∈ pre2, hit a q = true) ∧ ∃ x4, ρ = [some (.dat (.int p)), some (.dat (eR w)), some (.dat (eR r)), some (.dat (tI a)), x4]) ⟨fun _ z => (nomatch z), _, rfl⟩ ?_ ?_
      · rintro pre2 b post2 e2 ρ ⟨hp2, x4, rfl⟩ Kn2 kn2
        have hb : OkSet p b := by
          first | exact hr.each b (by rw [e2]; simp) | exact hw.each b (by rw [e2]; simp)
        simp only [aName_eq, nm_dat, nm_own, dd_dat, dd_own, bb_bool, arg_dat, arg_own, arg_ali, das_nil, das_dat, cont_list, cont_tup, cont_own, cont_ali, contS_own, ownL_own, ownO_own, stor_dat, stor_own, iD_int, ii_int, i1_int, sAddU_int, sAddU_tup, truS_none, truS_bool, truS_int, truS_list, truS_tup, truS_ali, srcOf_list, srcOf_tup, srcOf_ali, Ab.got_some, gZ_nil, gC_cons, gT_tup, onlyDat_dat, notAli_dat, notAli_own, getO_some, fin_none, fin_some, finO_own, callA_nil, callA_dat, callA_ali, argS_none, argS_some, rt_ad, nx_ad, isN_none, isN_tup, notN_none, notN_tup, aNx, aRet, aIf, aSet, aAug, aDrop, aNever, aC, aBin, aBinR, aUn, aTst, aChain, aNot, aAnd, aOr, aIfE, aAndV, aOrV, aNotV, aNil, aCons, aTup, aLst, aCall1, aCallD, aIx, aApp, aExt, aSetIx, aTru, sLen, sAny, sAll, sSum, sList, sTuple, fI, fC, fB, aSeqI, aRng1, aFor, aFrz, gN, aUnp, aLc, aYes, aCall, aRep, aRgT, turn, wipeA, br_true, br_false, List.map_nil, List.map_cons, List.nil_append, List.cons_append, List.replicate, List.getElem?_cons_zero, List.getElem?_cons_succ, List.set_cons_zero, List.set_cons_succ, List.length_cons, List.length_nil, sIn_int, sNotIn_int, sEq_int, sNe_int, sEq_bool, sNe_bool, sEq_str, aSeq]
        refine ⟨a, b, rfl, rfl, by omega, rfl, fun hh => ?_, fun hh => ?_⟩
        · have h0 : hit a b = false := by simpa using hh
          have ef : firstA w r = some (a, b) := by
            have : firstA (pre ++ a :: post) r = some (a, b) := firstA_some hp e2 hp2 h0
            rwa [← e] at this
          refine ⟨small_le (by decide), ?_⟩
          have e9 : eClash w r = .tuple [sv "read", tI a, tI b] := by unfold eClash; rw [ef]
          rw [e9] at k
          exact k
        · have h0 : hit a b = true := by simpa using hh
          exact kn2 _ ⟨fun q hq => (List.mem_append.mp hq).elim (hp2 q) fun z => by rw [List.mem_singleton.mp z]; exact h0, _, rfl⟩
      · rintro ρ ⟨hp2, x4, rfl⟩
        exact kn _ ⟨fun v hv => (List.mem_append.mp hv).elim (hp v) fun z => by rw [List.mem_singleton.mp z]; exact hp2, _, _, rfl⟩
    · rintro ρ ⟨hp, x3, x4, rfl⟩
      have ef : firstA w r = none := firstA_none hp
      have ef1 := ef
      simp only [aName_eq, nm_dat, nm_own, dd_dat, dd_own, bb_bool, arg_dat, arg_own, arg_ali, das_nil, das_dat, cont_list, cont_tup, cont_own, cont_ali, contS_own, ownL_own, ownO_own, stor_dat, stor_own, iD_int, ii_int, i1_int, sAddU_int, sAddU_tup, truS_none, truS_bool, truS_int, truS_list, truS_tup, truS_ali, srcOf_list, srcOf_tup, srcOf_ali, Ab.got_some, gZ_nil, gC_cons, gT_tup, onlyDat_dat, notAli_dat, notAli_own, getO_some, fin_none, fin_some, finO_own, callA_nil, callA_dat, callA_ali, argS_none, argS_some, rt_ad, nx_ad, isN_none, isN_tup, notN_none, notN_tup, aNx, aRet, aIf, aSet, aAug, aDrop, aNever, aC, aBin, aBinR, aUn, aTst, aChain, aNot, aAnd, aOr, aIfE, aAndV, aOrV, aNotV, aNil, aCons, aTup, aLst, aCall1, aCallD, aIx, aApp, aExt, aSetIx, aTru, sLen, sAny, sAll, sSum, sList, sTuple, fI, fC, fB, aSeqI, aRng1, aFor, aFrz, gN, aUnp, aLc, aYes, aCall, aRep, aRgT, turn, wipeA, br_true, br_false, List.map_nil, List.map_cons, List.nil_append, List.cons_append, List.replicate, List.getElem?_cons_zero, List.getElem?_cons_succ, List.set_cons_zero, List.set_cons_succ, List.length_cons, List.length_nil, sIn_int, sNotIn_int, sEq_int, sNe_int, sEq_bool, sNe_bool, sEq_str, aSeq]
      refine ⟨trivial, fun _ => trivial, ?_⟩

      refine for_inv (enc := tI) (xs := w) (fun pre ρ => (∀ v ∈ pre, ∀ q ∈ w, hit v q = true) ∧ ∃ x3 x4, ρ = [some (.dat (.int p)), some (.dat (eR w)), some (.dat (eR r)), x3, x4]) ⟨fun _ z => (nomatch z), _, _, rfl⟩ ?_ ?_
      · rintro pre a post e ρ ⟨hp, x3, x4, rfl⟩ Kn kn
        have ha : OkSet p a := hw.each a (by rw [e]; simp)
        have hal := ha.len
        simp only [eR, aName_eq, nm_dat, nm_own, dd_dat, dd_own, bb_bool, arg_dat, arg_own, arg_ali, das_nil, das_dat, cont_list, cont_tup, cont_own, cont_ali, contS_own, ownL_own, ownO_own, stor_dat, stor_own, iD_int, ii_int, i1_int, sAddU_int, sAddU_tup, truS_none, truS_bool, truS_int, truS_list, truS_tup, truS_ali, srcOf_list, srcOf_tup, srcOf_ali, Ab.got_some, gZ_nil, gC_cons, gT_tup, onlyDat_dat, notAli_dat, notAli_own, getO_some, fin_none, fin_some, finO_own, callA_nil, callA_dat, callA_ali, argS_none, argS_some, rt_ad, nx_ad, isN_none, isN_tup, notN_none, notN_tup, aNx, aRet, aIf, aSet, aAug, aDrop, aNever, aC, aBin, aBinR, aUn, aTst, aChain, aNot, aAnd, aOr, aIfE, aAndV, aOrV, aNotV, aNil, aCons, aTup, aLst, aCall1, aCallD, aIx, aApp, aExt, aSetIx, aTru, sLen, sAny, sAll, sSum, sList, sTuple, fI, fC, fB, aSeqI, aRng1, aFor, aFrz, gN, aUnp, aLc, aYes, aCall, aRep, aRgT, turn, wipeA, br_true, br_false, List.map_nil, List.map_cons, List.nil_append, List.cons_append, List.replicate, List.getElem?_cons_zero, List.getElem?_cons_succ, List.set_cons_zero, List.set_cons_succ, List.length_cons, List.length_nil, sIn_int, sNotIn_int, sEq_int, sNe_int, sEq_bool, sNe_bool, sEq_str, aSeq]
        refine ⟨trivial, fun _ => trivial, ?_⟩
        refine for_inv (enc := tI) (xs := w) (fun pre2 ρ => (∀ q ∈ pre2, hit a q = true) ∧ ∃ x4, ρ = [some (.dat (.int p)), some (.dat (eR w)), some (.dat (eR r)), some (.dat (tI a)), x4]) ⟨fun _ z => (nomatch z), _, rfl⟩ ?_ ?_
        · rintro pre2 b post2 e2 ρ ⟨hp2, x4, rfl⟩ Kn2 kn2
          have hb : OkSet p b := by
            first | exact hr.each b (by rw [e2]; simp) | exact hw.each b (by rw [e2]; simp)
          simp only [aName_eq, nm_dat, nm_own, dd_dat, dd_own, bb_bool, arg_dat, arg_own, arg_ali, das_nil, das_dat, cont_list, cont_tup, cont_own, cont_ali, contS_own, ownL_own, ownO_own, stor_dat, stor_own, iD_int, ii_int, i1_int, sAddU_int, sAddU_tup, truS_none, truS_bool, truS_int, truS_list, truS_tup, truS_ali, srcOf_list, srcOf_tup, srcOf_ali, Ab.got_some, gZ_nil, gC_cons, gT_tup, onlyDat_dat, notAli_dat, notAli_own, getO_some, fin_none, fin_some, finO_own, callA_nil, callA_dat, callA_ali, argS_none, argS_some, rt_ad, nx_ad, isN_none, isN_tup, notN_none, notN_tup, aNx, aRet, aIf, aSet, aAug, aDrop, aNever, aC, aBin, aBinR, aUn, aTst, aChain, aNot, aAnd, aOr, aIfE, aAndV, aOrV, aNotV, aNil, aCons, aTup, aLst, aCall1, aCallD, aIx, aApp, aExt, aSetIx, aTru, sLen, sAny, sAll, sSum, sList, sTuple, fI, fC, fB, aSeqI, aRng1, aFor, aFrz, gN, aUnp, aLc, aYes, aCall, aRep, aRgT, turn, wipeA, br_true, br_false, List.map_nil, List.map_cons, List.nil_append, List.cons_append, List.replicate, List.getElem?_cons_zero, List.getElem?_cons_succ, List.set_cons_zero, List.set_cons_succ, List.length_cons, List.length_nil, sIn_int, sNotIn_int, sEq_int, sNe_int, sEq_bool, sNe_bool, sEq_str, aSeq]
          refine ⟨a, b, rfl, rfl, by omega, rfl, fun hh => ?_, fun hh => ?_⟩
          · have h0 : hit a b = false := by simpa using hh
            have ef : firstA w w = some (a, b) := by
              have : firstA (pre ++ a :: post) w = some (a, b) := firstA_some hp e2 hp2 h0
              rwa [← e] at this
            refine ⟨small_le (by decide), ?_⟩
            have e9 : eClash w r = .tuple [sv "write", tI a, tI b] := by unfold eClash; rw [ef1, ef]
            rw [e9] at k
            exact k
          · have h0 : hit a b = true := by simpa using hh
            exact kn2 _ ⟨fun q hq => (List.mem_append.mp hq).elim (hp2 q) fun z => by rw [List.mem_singleton.mp z]; exact h0, _, rfl⟩
        · rintro ρ ⟨hp2, x4, rfl⟩
          exact kn _ ⟨fun v hv => (List.mem_append.mp hv).elim (hp v) fun z => by rw [List.mem_singleton.mp z]; exact hp2, _, _, rfl⟩
      · rintro ρ ⟨hp, x3, x4, rfl⟩
        have ef : firstA w w = none := firstA_none hp
        have e9 : eClash w r = .none := by unfold eClash; rw [ef1, ef]
        rw [e9] at k
        exact k
theorem ok_stale_run (D : Defs K mg) : FnOk P w K mg base CX0 2 D.f_stale_run D.fd_stale_run ["places", "writes", "reads"] (toSp K sp_stale_run) := by
  have G_check_quorums : FnOk P w K mg base CX0 1 D.f_check_quorums D.fd_check_quorums ["places", "writes", "reads"] (toSp K sp_check_quorums) := ok_check_quorums D
  have G_apart : FnOk P w K mg base CX0 1 D.f_apart D.fd_apart ["one", "other"] (toSp K sp_apart) := ok_apart D
  refine ok_def D.F_stale_run sc_stale_run (fun oo ds Kc h => ?_) (fun cdv A outer s H E hr =>
      (ss_cons (s_expr (e_call G_check_quorums (hr.mono (by decide)) (by rfl) D.g_check_quorums D.F_check_quorums.kp D.n_check_quorums (x_cons (e_name (pv 0)) (x_cons (e_name (pv 1)) (x_cons (e_name (pv 2)) x_nil)))))
      (ss_cons (s_for PassesOwn.never rfl (i_seq (e_name (pv 1))) (g_name (pg_name (i := 3) sc_stale_run.nd rfl (.inl rfl))) (ss_one (s_for PassesOwn.never rfl (i_seq (e_name (pv 2))) (g_name (pg_name (i := 4) sc_stale_run.nd rfl (.inl rfl))) (ss_one (s_if (t_truth (e_call G_apart (hr.mono (by decide)) (by rfl) D.g_apart D.F_apart.kp D.n_apart (x_cons (e_name (pv 3)) (x_cons (e_name (pv 4)) x_nil)))) (ss_one (s_ret (e_tup (x_cons (e_tup (x_cons e_str (x_cons (e_name (pv 3)) x_nil))) (x_cons (e_tup (x_cons e_str (x_cons (e_name (pv 4)) x_nil))) x_nil))))) ss_nil)))))
      (ss_one (s_ret e_non))))) (fun oo ds Kc h => ?_)
  · obtain ⟨p, w, r, rfl, rfl, _⟩ := h
    rfl
  · obtain ⟨p, w, r, rfl, rfl, hw, hr, k⟩ := h
    have h2 := hw.hi
    simp only [aName_eq, nm_dat, nm_own, dd_dat, dd_own, bb_bool, arg_dat, arg_own, arg_ali, das_nil, das_dat, cont_list, cont_tup, cont_own, cont_ali, contS_own, ownL_own, ownO_own, stor_dat, stor_own, iD_int, ii_int, i1_int, sAddU_int, sAddU_tup, truS_none, truS_bool, truS_int, truS_list, truS_tup, truS_ali, srcOf_list, srcOf_tup, srcOf_ali, Ab.got_some, gZ_nil, gC_cons, gT_tup, onlyDat_dat, notAli_dat, notAli_own, getO_some, fin_none, fin_some, finO_own, callA_nil, callA_dat, callA_ali, argS_none, argS_some, rt_ad, nx_ad, isN_none, isN_tup, notN_none, notN_tup, aNx, aRet, aIf, aSet, aAug, aDrop, aNever, aC, aBin, aBinR, aUn, aTst, aChain, aNot, aAnd, aOr, aIfE, aAndV, aOrV, aNotV, aNil, aCons, aTup, aLst, aCall1, aCallD, aIx, aApp, aExt, aSetIx, aTru, sLen, sAny, sAll, sSum, sList, sTuple, fI, fC, fB, aSeqI, aRng1, aFor, aFrz, gN, aUnp, aLc, aYes, aCall, aRep, aRgT, turn, wipeA, br_true, br_false, List.map_nil, List.map_cons, List.nil_append, List.cons_append, List.replicate, List.getElem?_cons_zero, List.getElem?_cons_succ, List.set_cons_zero, List.set_cons_succ, List.length_cons, List.length_nil, sIn_int, sNotIn_int, sEq_int, sNe_int, sEq_bool, sNe_bool, sEq_str, aSeq]
    refine ⟨p, w, r, rfl, rfl, hw, hr, rfl, trivial, fun _ => trivial, ?_⟩
    refine for_inv (enc := tI) (xs := w) (fun pre ρ => (∀ v ∈ pre, ∀ q ∈ r, hit v q = true) ∧ ∃ x3 x4, ρ = [some (.dat (.int p)), some (.dat (eR w)), some (.dat (eR r)), x3, x4]) ⟨fun _ z => (nomatch z), _, _, rfl⟩ ?_ ?_
    · rintro pre a post e ρ ⟨hp, x3, x4, rfl⟩ Kn kn
      have ha : OkSet p a := hw.each a (by rw [e]; simp)
      have hal := ha.len
      simp only [eR, aName_eq, nm_dat, nm_own, dd_dat, dd_own, bb_bool, arg_dat, arg_own, arg_ali, das_nil, das_dat, cont_list, cont_tup, cont_own, cont_ali, contS_own, ownL_own, ownO_own, stor_dat, stor_own, iD_int, ii_int, i1_int, sAddU_int, sAddU_tup, truS_none, truS_bool, truS_int, truS_list, truS_tup, truS_ali, srcOf_list, srcOf_tup, srcOf_ali, Ab.got_some, gZ_nil, gC_cons, gT_tup, onlyDat_dat, notAli_dat, notAli_own, getO_some, fin_none, fin_some, finO_own, callA_nil, callA_dat, callA_ali, argS_none, argS_some, rt_ad, nx_ad, isN_none, isN_tup, notN_none, notN_tup, aNx, aRet, aIf, aSet, aAug, aDrop, aNever, aC, aBin, aBinR, aUn, aTst, aChain, aNot, aAnd, aOr, aIfE, aAndV, aOrV, aNotV, aNil, aCons, aTup, aLst, aCall1, aCallD, aIx, aApp, aExt, aSetIx, aTru, sLen, sAny, sAll, sSum, sList, sTuple, fI, fC, fB, aSeqI, aRng1, aFor, aFrz, gN, aUnp, aLc, aYes, aCall, aRep, aRgT, turn, wipeA, br_true, br_false, List.map_nil, List.map_cons, List.nil_append, List.cons_append, List.replicate, List.getElem?_cons_zero, List.getElem?_cons_succ, List.set_cons_zero, List.set_cons_succ, List.length_cons, List.length_nil, sIn_int, sNotIn_int, sEq_int, sNe_int, sEq_bool, sNe_bool, sEq_str, aSeq]
      refine ⟨trivial, fun _ => trivial, ?_⟩
      refine for_inv (enc := tI) (xs := r) (fun pre2 ρ => (∀ q ∈ pre2, hit a q = true) ∧ ∃ x4, ρ = [some (.dat (.int p)), some (.dat (eR w)), some (.dat (eR r)), some (.dat (tI a)), x4]) ⟨fun _ z => (nomatch z), _, rfl⟩ ?_ ?_
      · rintro pre2 b post2 e2 ρ ⟨hp2, x4, rfl⟩ Kn2 kn2
        have hb : OkSet p b := by
          first | exact hr.each b (by rw [e2]; simp) | exact hw.each b (by rw [e2]; simp)
        simp only [aName_eq, nm_dat, nm_own, dd_dat, dd_own, bb_bool, arg_dat, arg_own, arg_ali, das_nil, das_dat, cont_list, cont_tup, cont_own, cont_ali, contS_own, ownL_own, ownO_own, stor_dat, stor_own, iD_int, ii_int, i1_int, sAddU_int, sAddU_tup, truS_none, truS_bool, truS_int, truS_list, truS_tup, truS_ali, srcOf_list, srcOf_tup, srcOf_ali, Ab.got_some, gZ_nil, gC_cons, gT_tup, onlyDat_dat, notAli_dat, notAli_own, getO_some, fin_none, fin_some, finO_own, callA_nil, callA_dat, callA_ali, argS_none, argS_some, rt_ad, nx_ad, isN_none, isN_tup, notN_none, notN_tup, aNx, aRet, aIf, aSet, aAug, aDrop, aNever, aC, aBin, aBinR, aUn, aTst, aChain, aNot, aAnd, aOr, aIfE, aAndV, aOrV, aNotV, aNil, aCons, aTup, aLst, aCall1, aCallD, aIx, aApp, aExt, aSetIx, aTru, sLen, sAny, sAll, sSum, sList, sTuple, fI, fC, fB, aSeqI, aRng1, aFor, aFrz, gN, aUnp, aLc, aYes, aCall, aRep, aRgT, turn, wipeA, br_true, br_false, List.map_nil, List.map_cons, List.nil_append, List.cons_append, List.replicate, List.getElem?_cons_zero, List.getElem?_cons_succ, List.set_cons_zero, List.set_cons_succ, List.length_cons, List.length_nil, sIn_int, sNotIn_int, sEq_int, sNe_int, sEq_bool, sNe_bool, sEq_str, aSeq]
        refine ⟨a, b, rfl, rfl, by omega, rfl, fun hh => ?_, fun hh => ?_⟩
        · have h0 : hit a b = false := by simpa using hh
          have ef : firstA w r = some (a, b) := by
            have : firstA (pre ++ a :: post) r = some (a, b) := firstA_some hp e2 hp2 h0
            rwa [← e] at this
          refine ⟨small_le (by decide), ?_⟩
          have e9 : eStale w r = .tuple [eRun (true, a), eRun (false, b)] := by unfold eStale; rw [ef]
          rw [e9] at k
          exact ⟨small_le (by decide), small_le (by decide), k⟩
        · have h0 : hit a b = true := by simpa using hh
          exact kn2 _ ⟨fun q hq => (List.mem_append.mp hq).elim (hp2 q) fun z => by rw [List.mem_singleton.mp z]; exact h0, _, rfl⟩
      · rintro ρ ⟨hp2, x4, rfl⟩
        exact kn _ ⟨fun v hv => (List.mem_append.mp hv).elim (hp v) fun z => by rw [List.mem_singleton.mp z]; exact hp2, _, _, rfl⟩
    · rintro ρ ⟨hp, x3, x4, rfl⟩
      have ef : firstA w r = none := firstA_none hp
      have e9 : eStale w r = .none := by unfold eStale; rw [ef]
      rw [e9] at k
      exact k
end
end K75

set_option maxHeartbeats 4000000
namespace K75
open PySem Ab
theorem foldM_mem {φ : List Int → Bool} : ∀ (S acc : List (List Int)) (x : List Int), x ∈ S.foldl (stepM φ) acc → x ∈ acc ∨ x ∈ S
  | [], acc, x, h => .inl h
  | s :: S, acc, x, h => by
    rcases foldM_mem S (stepM φ acc s) x h with h | h
    · unfold stepM at h
      split at h
      · rcases List.mem_append.mp h with h | h
        · exact .inl h
        · exact .inr (by rw [List.mem_singleton.mp h]; exact List.mem_cons_self)
      · exact .inl h
    · exact .inr (List.mem_cons_of_mem _ h)
theorem foldM_len {φ : List Int → Bool} : ∀ (S acc : List (List Int)), (S.foldl (stepM φ) acc).length ≤ acc.length + S.length
  | [], acc => Nat.le_refl _
  | s :: S, acc => by
    have h := foldM_len (φ := φ) S (stepM φ acc s)
    have h2 : (stepM φ acc s).length ≤ acc.length + 1 := by
      unfold stepM
      split
      · simp
      · omega
    rw [List.foldl_cons, List.length_cons]
    omega
theorem minsF_sub {φ : List Int → Bool} {S : List (List Int)} {x : List Int} (h : x ∈ minsF φ S) : x ∈ S := by
  rcases foldM_mem S [] x h with h | h
  · cases h
  · exact h
theorem minsF_len {φ : List Int → Bool} (S : List (List Int)) : (minsF φ S).length ≤ S.length := by
  have := foldM_len (φ := φ) S []
  simpa [minsF] using this
theorem minsF_snoc {φ : List Int → Bool} (S : List (List Int)) (a : List Int) : minsF φ (S ++ [a]) = stepM φ (minsF φ S) a := by
  unfold minsF
  rw [List.foldl_append]
  rfl
end K75

set_option maxHeartbeats 4000000
namespace K75
open PySem PySem.Spec PyProof.Rows L2 Ab
section
variable {P : Program} {w : World} {K : PySem.W.Frag} {mg : Str → Option Value} {base : Heap}
theorem ok_sets_of (D : Defs K mg) : FnOk P w K mg base CX0 1 D.f_sets_of D.fd_sets_of ["places"] (toSp K sp_sets_of) := by
  refine ok_def D.F_sets_of sc_sets_of (fun oo ds Kc h => ?_) (fun cdv A outer s H E hr =>
      (ss_cons (s_set (ps_set (i := 1) sc_sets_of.nd rfl (.inl rfl) (e_lst (x_cons (e_tup x_nil) x_nil))))
      (ss_cons (s_for PassesOwn.never rfl (i_rng1 (by rfl) D.b_range (e_name (pv 0))) (g_name (pg_name (i := 2) sc_sets_of.nd rfl (.inr rfl))) (ss_one (s_ext (pe_extend (pv 1) (e_lc (own := [("row", 3)]) rfl sc_sets_of.nd (i_seq (e_name (pv 1))) (blkOk_by (by kernel_rfl)) (fun _ _ _ _ _ => (g_name (pg_name (i := 3) sc_sets_of.nd rfl (by first | exact Or.inl rfl | exact Or.inr rfl)))) (fun _ _ _ _ _ => ts_nil) (fun _ _ _ _ _ => (e_op op_addU dr_addU (e_name (pv 3)) (e_tup (x_cons (e_name (pv 2)) x_nil)))))))))
      (ss_one (s_ret (e_lc (own := [("_", 4), ("row", 3)]) rfl sc_sets_of.nd (i_seq (e_callB (cr_sortD hr.units) dc_sorted (by rfl) D.b_sorted boot_sorted (e_lc (own := [("row", 3)]) rfl sc_sets_of.nd (i_seq (e_name (pv 1))) (blkOk_by (by kernel_rfl)) (fun _ _ _ _ _ => (g_name (pg_name (i := 3) sc_sets_of.nd rfl (by first | exact Or.inl rfl | exact Or.inr rfl)))) (fun _ _ _ _ _ => ts_nil) (fun _ _ _ _ _ => (e_tup (x_cons (e_callB call_len_seq dc_len (by rfl) D.b_len PySem.boot_len (e_name (pv 3))) (x_cons (e_name (pv 3)) x_nil))))))) (blkOk_by (by kernel_rfl)) (fun _ _ _ _ _ => (g_tup (pg_tup (n := 2) rfl (gs_cons (g_name (pg_name (i := 4) sc_sets_of.nd rfl (by first | exact Or.inl rfl | exact Or.inr rfl))) (gs_cons (g_name (pg_name (i := 3) sc_sets_of.nd rfl (by first | exact Or.inl rfl | exact Or.inr rfl))) gs_nil))))) (fun _ _ _ _ _ => ts_nil) (fun _ _ _ _ _ => (e_name (pv 3))))))))) (fun oo ds Kc h => ?_)
  · obtain ⟨p, rfl, rfl, _⟩ := h
    rfl
  · obtain ⟨p, rfl, rfl, h0, h6, k⟩ := h
    simp only [aName_eq, nm_dat, nm_own, dd_dat, dd_own, bb_bool, arg_dat, arg_own, arg_ali, das_nil, das_dat, cont_list, cont_tup, cont_own, cont_ali, contS_own, ownL_own, ownO_own, stor_dat, stor_own, iD_int, ii_int, i1_int, sAddU_int, sAddU_tup, truS_none, truS_bool, truS_int, truS_list, truS_tup, truS_ali, srcOf_list, srcOf_tup, srcOf_ali, Ab.got_some, gZ_nil, gC_cons, gT_tup, onlyDat_dat, notAli_dat, notAli_own, getO_some, fin_none, fin_some, finO_own, callA_nil, callA_dat, callA_ali, argS_none, argS_some, rt_ad, nx_ad, isN_none, isN_tup, notN_none, notN_tup, aNx, aRet, aIf, aSet, aAug, aDrop, aNever, aC, aBin, aBinR, aUn, aTst, aChain, aNot, aAnd, aOr, aIfE, aAndV, aOrV, aNotV, aNil, aCons, aTup, aLst, aCall1, aCallD, aIx, aApp, aExt, aSetIx, aTru, sLen, sAny, sAll, sSum, sList, sTuple, fI, fC, fB, aSeqI, aRng1, aFor, aFrz, gN, aUnp, aLc, aYes, aCall, aRep, aRgT, turn, wipeA, br_true, br_false, List.map_nil, List.map_cons, List.nil_append, List.cons_append, List.replicate, List.getElem?_cons_zero, List.getElem?_cons_succ, List.set_cons_zero, List.set_cons_succ, List.length_cons, List.length_nil, sIn_int, sNotIn_int, sEq_int, sNe_int, sEq_bool, sNe_bool, sEq_str, aSeq]
    refine ⟨small_le (by decide), small_le (by decide), by omega, by omega, trivial, fun _ => trivial, ?_⟩
    rw [rangeD0]
    refine for_inv (fun pre ρ => ∃ x2, ρ = [some (.dat (.int p)), some (.own none (.lst ((subsN pre.length).map tI))), x2, none, none]) ⟨_, rfl⟩ ?_ ?_
    · rintro pre x post e ρ ⟨x2, rfl⟩ Kn kn
      have hx : x = pre.length := by
        have h1 : (List.range p.toNat)[pre.length]? = some x := by rw [e]; simp
        have hl : pre.length < p.toNat := by
          have := congrArg List.length e
          simp at this
          omega
        rw [List.getElem?_range hl] at h1
        exact (Option.some.inj h1).symm
      have hl : x < p.toNat := by
        have := congrArg List.length e
        simp at this
        omega
      have hz : (subsN pre.length).length ≤ 64 := by
        rw [subsN_len]
        exact Nat.pow_le_pow_right (n := 2) (by omega) (by omega : pre.length ≤ 6)
      simp only [aName_eq, nm_dat, nm_own, dd_dat, dd_own, bb_bool, arg_dat, arg_own, arg_ali, das_nil, das_dat, cont_list, cont_tup, cont_own, cont_ali, contS_own, ownL_own, ownO_own, stor_dat, stor_own, iD_int, ii_int, i1_int, sAddU_int, sAddU_tup, truS_none, truS_bool, truS_int, truS_list, truS_tup, truS_ali, srcOf_list, srcOf_tup, srcOf_ali, Ab.got_some, gZ_nil, gC_cons, gT_tup, onlyDat_dat, notAli_dat, notAli_own, getO_some, fin_none, fin_some, finO_own, callA_nil, callA_dat, callA_ali, argS_none, argS_some, rt_ad, nx_ad, isN_none, isN_tup, notN_none, notN_tup, aNx, aRet, aIf, aSet, aAug, aDrop, aNever, aC, aBin, aBinR, aUn, aTst, aChain, aNot, aAnd, aOr, aIfE, aAndV, aOrV, aNotV, aNil, aCons, aTup, aLst, aCall1, aCallD, aIx, aApp, aExt, aSetIx, aTru, sLen, sAny, sAll, sSum, sList, sTuple, fI, fC, fB, aSeqI, aRng1, aFor, aFrz, gN, aUnp, aLc, aYes, aCall, aRep, aRgT, turn, wipeA, br_true, br_false, List.map_nil, List.map_cons, List.nil_append, List.cons_append, List.replicate, List.getElem?_cons_zero, List.getElem?_cons_succ, List.set_cons_zero, List.set_cons_succ, List.length_cons, List.length_nil, sIn_int, sNotIn_int, sEq_int, sNe_int, sEq_bool, sNe_bool, sEq_str, aSeq]
      refine lc_map (enc := tI) (fun r => tI (r ++ [(x : Int)])) rfl (by simp [Ab.freeOf]) (small_len (by omega)) (fun r hr Ka Ks ka => ?_) ?_
      · have hr2 : r.length ≤ 6 := by
          obtain ⟨g1, g2⟩ := (subsN_mem _ r).mp hr
          have := asc_len g1 g2 (by omega)
          omega
        simp only [aName_eq, nm_dat, nm_own, dd_dat, dd_own, bb_bool, arg_dat, arg_own, arg_ali, das_nil, das_dat, cont_list, cont_tup, cont_own, cont_ali, contS_own, ownL_own, ownO_own, stor_dat, stor_own, iD_int, ii_int, i1_int, sAddU_int, sAddU_tup, truS_none, truS_bool, truS_int, truS_list, truS_tup, truS_ali, srcOf_list, srcOf_tup, srcOf_ali, Ab.got_some, gZ_nil, gC_cons, gT_tup, onlyDat_dat, notAli_dat, notAli_own, getO_some, fin_none, fin_some, finO_own, callA_nil, callA_dat, callA_ali, argS_none, argS_some, rt_ad, nx_ad, isN_none, isN_tup, notN_none, notN_tup, aNx, aRet, aIf, aSet, aAug, aDrop, aNever, aC, aBin, aBinR, aUn, aTst, aChain, aNot, aAnd, aOr, aIfE, aAndV, aOrV, aNotV, aNil, aCons, aTup, aLst, aCall1, aCallD, aIx, aApp, aExt, aSetIx, aTru, sLen, sAny, sAll, sSum, sList, sTuple, fI, fC, fB, aSeqI, aRng1, aFor, aFrz, gN, aUnp, aLc, aYes, aCall, aRep, aRgT, turn, wipeA, br_true, br_false, List.map_nil, List.map_cons, List.nil_append, List.cons_append, List.replicate, List.getElem?_cons_zero, List.getElem?_cons_succ, List.set_cons_zero, List.set_cons_succ, List.length_cons, List.length_nil, sIn_int, sNotIn_int, sEq_int, sNe_int, sEq_bool, sNe_bool, sEq_str, aSeq]
        refine ⟨small_le (by decide), small_le (by simp; omega), ?_⟩
        have e2 : tI (r ++ [(x : Int)]) = .tuple (r.map PyData.int ++ [PyData.int x]) := by simp [tI]
        rw [e2] at ka
        exact ka
      · simp only [List.length_map, aName_eq, nm_dat, nm_own, dd_dat, dd_own, bb_bool, arg_dat, arg_own, arg_ali, das_nil, das_dat, cont_list, cont_tup, cont_own, cont_ali, contS_own, ownL_own, ownO_own, stor_dat, stor_own, iD_int, ii_int, i1_int, sAddU_int, sAddU_tup, truS_none, truS_bool, truS_int, truS_list, truS_tup, truS_ali, srcOf_list, srcOf_tup, srcOf_ali, Ab.got_some, gZ_nil, gC_cons, gT_tup, onlyDat_dat, notAli_dat, notAli_own, getO_some, fin_none, fin_some, finO_own, callA_nil, callA_dat, callA_ali, argS_none, argS_some, rt_ad, nx_ad, isN_none, isN_tup, notN_none, notN_tup, aNx, aRet, aIf, aSet, aAug, aDrop, aNever, aC, aBin, aBinR, aUn, aTst, aChain, aNot, aAnd, aOr, aIfE, aAndV, aOrV, aNotV, aNil, aCons, aTup, aLst, aCall1, aCallD, aIx, aApp, aExt, aSetIx, aTru, sLen, sAny, sAll, sSum, sList, sTuple, fI, fC, fB, aSeqI, aRng1, aFor, aFrz, gN, aUnp, aLc, aYes, aCall, aRep, aRgT, turn, wipeA, br_true, br_false, List.map_nil, List.map_cons, List.nil_append, List.cons_append, List.replicate, List.getElem?_cons_zero, List.getElem?_cons_succ, List.set_cons_zero, List.set_cons_succ, List.length_cons, List.length_nil, sIn_int, sNotIn_int, sEq_int, sNe_int, sEq_bool, sNe_bool, sEq_str, aSeq]
        refine ⟨small_le (by omega), kn _ ⟨some (.dat (.int x)), ?_⟩⟩
        subst hx
        rw [List.length_append, List.length_singleton]
        simp [subsN]
    · rintro ρ ⟨x2, rfl⟩
      rw [List.length_range]
      have hz : (subsN p.toNat).length ≤ 64 := by
        rw [subsN_len]
        exact Nat.pow_le_pow_right (n := 2) (by omega) (by omega : p.toNat ≤ 6)
      simp only [aName_eq, nm_dat, nm_own, dd_dat, dd_own, bb_bool, arg_dat, arg_own, arg_ali, das_nil, das_dat, cont_list, cont_tup, cont_own, cont_ali, contS_own, ownL_own, ownO_own, stor_dat, stor_own, iD_int, ii_int, i1_int, sAddU_int, sAddU_tup, truS_none, truS_bool, truS_int, truS_list, truS_tup, truS_ali, srcOf_list, srcOf_tup, srcOf_ali, Ab.got_some, gZ_nil, gC_cons, gT_tup, onlyDat_dat, notAli_dat, notAli_own, getO_some, fin_none, fin_some, finO_own, callA_nil, callA_dat, callA_ali, argS_none, argS_some, rt_ad, nx_ad, isN_none, isN_tup, notN_none, notN_tup, aNx, aRet, aIf, aSet, aAug, aDrop, aNever, aC, aBin, aBinR, aUn, aTst, aChain, aNot, aAnd, aOr, aIfE, aAndV, aOrV, aNotV, aNil, aCons, aTup, aLst, aCall1, aCallD, aIx, aApp, aExt, aSetIx, aTru, sLen, sAny, sAll, sSum, sList, sTuple, fI, fC, fB, aSeqI, aRng1, aFor, aFrz, gN, aUnp, aLc, aYes, aCall, aRep, aRgT, turn, wipeA, br_true, br_false, List.map_nil, List.map_cons, List.nil_append, List.cons_append, List.replicate, List.getElem?_cons_zero, List.getElem?_cons_succ, List.set_cons_zero, List.set_cons_succ, List.length_cons, List.length_nil, sIn_int, sNotIn_int, sEq_int, sNe_int, sEq_bool, sNe_bool, sEq_str, aSeq]
      refine lc_map (enc := tI) keyS rfl (by simp [Ab.freeOf]) (small_len (by omega)) (fun r hr Ka Ks ka => ?_) ?_
      · simp only [List.length_map, aName_eq, nm_dat, nm_own, dd_dat, dd_own, bb_bool, arg_dat, arg_own, arg_ali, das_nil, das_dat, cont_list, cont_tup, cont_own, cont_ali, contS_own, ownL_own, ownO_own, stor_dat, stor_own, iD_int, ii_int, i1_int, sAddU_int, sAddU_tup, truS_none, truS_bool, truS_int, truS_list, truS_tup, truS_ali, srcOf_list, srcOf_tup, srcOf_ali, Ab.got_some, gZ_nil, gC_cons, gT_tup, onlyDat_dat, notAli_dat, notAli_own, getO_some, fin_none, fin_some, finO_own, callA_nil, callA_dat, callA_ali, argS_none, argS_some, rt_ad, nx_ad, isN_none, isN_tup, notN_none, notN_tup, aNx, aRet, aIf, aSet, aAug, aDrop, aNever, aC, aBin, aBinR, aUn, aTst, aChain, aNot, aAnd, aOr, aIfE, aAndV, aOrV, aNotV, aNil, aCons, aTup, aLst, aCall1, aCallD, aIx, aApp, aExt, aSetIx, aTru, sLen, sAny, sAll, sSum, sList, sTuple, fI, fC, fB, aSeqI, aRng1, aFor, aFrz, gN, aUnp, aLc, aYes, aCall, aRep, aRgT, turn, wipeA, br_true, br_false, List.map_nil, List.map_cons, List.nil_append, List.cons_append, List.replicate, List.getElem?_cons_zero, List.getElem?_cons_succ, List.set_cons_zero, List.set_cons_succ, List.length_cons, List.length_nil, sIn_int, sNotIn_int, sEq_int, sNe_int, sEq_bool, sNe_bool, sEq_str, aSeq]
        refine ⟨small_le (by decide), ?_⟩
        exact ka
      · obtain ⟨s1, s2, s3⟩ := keyS_ok (subsN p.toNat)
        simp only [sSorted, aName_eq, nm_dat, nm_own, dd_dat, dd_own, bb_bool, arg_dat, arg_own, arg_ali, das_nil, das_dat, cont_list, cont_tup, cont_own, cont_ali, contS_own, ownL_own, ownO_own, stor_dat, stor_own, iD_int, ii_int, i1_int, sAddU_int, sAddU_tup, truS_none, truS_bool, truS_int, truS_list, truS_tup, truS_ali, srcOf_list, srcOf_tup, srcOf_ali, Ab.got_some, gZ_nil, gC_cons, gT_tup, onlyDat_dat, notAli_dat, notAli_own, getO_some, fin_none, fin_some, finO_own, callA_nil, callA_dat, callA_ali, argS_none, argS_some, rt_ad, nx_ad, isN_none, isN_tup, notN_none, notN_tup, aNx, aRet, aIf, aSet, aAug, aDrop, aNever, aC, aBin, aBinR, aUn, aTst, aChain, aNot, aAnd, aOr, aIfE, aAndV, aOrV, aNotV, aNil, aCons, aTup, aLst, aCall1, aCallD, aIx, aApp, aExt, aSetIx, aTru, sLen, sAny, sAll, sSum, sList, sTuple, fI, fC, fB, aSeqI, aRng1, aFor, aFrz, gN, aUnp, aLc, aYes, aCall, aRep, aRgT, turn, wipeA, br_true, br_false, List.map_nil, List.map_cons, List.nil_append, List.cons_append, List.replicate, List.getElem?_cons_zero, List.getElem?_cons_succ, List.set_cons_zero, List.set_cons_succ, List.length_cons, List.length_nil, sIn_int, sNotIn_int, sEq_int, sNe_int, sEq_bool, sNe_bool, sEq_str, aSeq]
        refine ⟨trivial, s1, s2, s3, ?_⟩
        rw [keyS_sort]
        refine lc_map (enc := keyS) (fun r => tI r) trivial (by simp [Ab.freeOf]) (small_len (by have := setsOf_len h0 h6; exact Nat.le_trans this (by decide))) (fun r hr Ka Ks ka => ?_) ?_
        · simp only [keyS, aName_eq, nm_dat, nm_own, dd_dat, dd_own, bb_bool, arg_dat, arg_own, arg_ali, das_nil, das_dat, cont_list, cont_tup, cont_own, cont_ali, contS_own, ownL_own, ownO_own, stor_dat, stor_own, iD_int, ii_int, i1_int, sAddU_int, sAddU_tup, truS_none, truS_bool, truS_int, truS_list, truS_tup, truS_ali, srcOf_list, srcOf_tup, srcOf_ali, Ab.got_some, gZ_nil, gC_cons, gT_tup, onlyDat_dat, notAli_dat, notAli_own, getO_some, fin_none, fin_some, finO_own, callA_nil, callA_dat, callA_ali, argS_none, argS_some, rt_ad, nx_ad, isN_none, isN_tup, notN_none, notN_tup, aNx, aRet, aIf, aSet, aAug, aDrop, aNever, aC, aBin, aBinR, aUn, aTst, aChain, aNot, aAnd, aOr, aIfE, aAndV, aOrV, aNotV, aNil, aCons, aTup, aLst, aCall1, aCallD, aIx, aApp, aExt, aSetIx, aTru, sLen, sAny, sAll, sSum, sList, sTuple, fI, fC, fB, aSeqI, aRng1, aFor, aFrz, gN, aUnp, aLc, aYes, aCall, aRep, aRgT, turn, wipeA, br_true, br_false, List.map_nil, List.map_cons, List.nil_append, List.cons_append, List.replicate, List.getElem?_cons_zero, List.getElem?_cons_succ, List.set_cons_zero, List.set_cons_succ, List.length_cons, List.length_nil, sIn_int, sNotIn_int, sEq_int, sNe_int, sEq_bool, sNe_bool, sEq_str, aSeq]
          exact ⟨trivial, ka⟩
        · exact k
theorem ok_fatal (D : Defs K mg) : FnOk P w K mg base CX0 2 D.f_fatal D.fd_fatal ["places", "rows"] (toSp K sp_fatal) := by
  have G_check_quorums : FnOk P w K mg base CX0 1 D.f_check_quorums D.fd_check_quorums ["places", "writes", "reads"] (toSp K sp_check_quorums) := ok_check_quorums D
  have G_sets_of : FnOk P w K mg base CX0 1 D.f_sets_of D.fd_sets_of ["places"] (toSp K sp_sets_of) := ok_sets_of D
  have G_is_hit : FnOk P w K mg base CX0 1 D.f_is_hit D.fd_is_hit ["row", "down"] (toSp K sp_is_hit) := ok_is_hit D
  refine ok_def D.F_fatal sc_fatal (fun oo ds Kc h => ?_) (fun cdv A outer s H E hr =>
      (ss_cons (s_expr (e_call G_check_quorums (hr.mono (by decide)) (by rfl) D.g_check_quorums D.F_check_quorums.kp D.n_check_quorums (x_cons (e_name (pv 0)) (x_cons (e_name (pv 1)) (x_cons (e_name (pv 1)) x_nil)))))
      (ss_cons (s_for PassesOwn.never rfl (i_seq (e_call G_sets_of (hr.mono (by decide)) (by rfl) D.g_sets_of D.F_sets_of.kp D.n_sets_of (x_cons (e_name (pv 0)) x_nil))) (g_name (pg_name (i := 2) sc_fatal.nd rfl (.inr rfl))) (ss_one (s_if (t_truth (e_callB (cr_all rfl) dc_all (by rfl) D.b_all boot_all (e_lc (own := [("row", 3)]) rfl sc_fatal.nd (i_seq (e_name (pv 1))) (blkOk_by (by kernel_rfl)) (fun _ _ _ _ _ => (g_name (pg_name (i := 3) sc_fatal.nd rfl (by first | exact Or.inl rfl | exact Or.inr rfl)))) (fun _ _ _ _ _ => ts_nil) (fun _ _ _ _ _ => (e_call G_is_hit (hr.mono (by decide)) (by rfl) D.g_is_hit D.F_is_hit.kp D.n_is_hit (x_cons (e_name (pv 3)) (x_cons (e_name (pv 2)) x_nil))))))) (ss_one (s_ret (e_name (pv 2)))) ss_nil)))
      (ss_one (s_ret e_non))))) (fun oo ds Kc h => ?_)
  · obtain ⟨p, w, s, rfl, rfl, _⟩ := h
    rfl
  · obtain ⟨p, w, s, rfl, rfl, hw, hs, k⟩ := h
    have h1 := hw.lo
    have h2 := hw.hi
    simp only [aName_eq, nm_dat, nm_own, dd_dat, dd_own, bb_bool, arg_dat, arg_own, arg_ali, das_nil, das_dat, cont_list, cont_tup, cont_own, cont_ali, contS_own, ownL_own, ownO_own, stor_dat, stor_own, iD_int, ii_int, i1_int, sAddU_int, sAddU_tup, truS_none, truS_bool, truS_int, truS_list, truS_tup, truS_ali, srcOf_list, srcOf_tup, srcOf_ali, Ab.got_some, gZ_nil, gC_cons, gT_tup, onlyDat_dat, notAli_dat, notAli_own, getO_some, fin_none, fin_some, finO_own, callA_nil, callA_dat, callA_ali, argS_none, argS_some, rt_ad, nx_ad, isN_none, isN_tup, notN_none, notN_tup, aNx, aRet, aIf, aSet, aAug, aDrop, aNever, aC, aBin, aBinR, aUn, aTst, aChain, aNot, aAnd, aOr, aIfE, aAndV, aOrV, aNotV, aNil, aCons, aTup, aLst, aCall1, aCallD, aIx, aApp, aExt, aSetIx, aTru, sLen, sAny, sAll, sSum, sList, sTuple, fI, fC, fB, aSeqI, aRng1, aFor, aFrz, gN, aUnp, aLc, aYes, aCall, aRep, aRgT, turn, wipeA, br_true, br_false, List.map_nil, List.map_cons, List.nil_append, List.cons_append, List.replicate, List.getElem?_cons_zero, List.getElem?_cons_succ, List.set_cons_zero, List.set_cons_succ, List.length_cons, List.length_nil, sIn_int, sNotIn_int, sEq_int, sNe_int, sEq_bool, sNe_bool, sEq_str, aSeq]
    refine ⟨p, w, w, rfl, rfl, hw, hw, rfl, p, rfl, rfl, by omega, h2, ?_⟩
    simp only [aName_eq, nm_dat, nm_own, dd_dat, dd_own, bb_bool, arg_dat, arg_own, arg_ali, das_nil, das_dat, cont_list, cont_tup, cont_own, cont_ali, contS_own, ownL_own, ownO_own, stor_dat, stor_own, iD_int, ii_int, i1_int, sAddU_int, sAddU_tup, truS_none, truS_bool, truS_int, truS_list, truS_tup, truS_ali, srcOf_list, srcOf_tup, srcOf_ali, Ab.got_some, gZ_nil, gC_cons, gT_tup, onlyDat_dat, notAli_dat, notAli_own, getO_some, fin_none, fin_some, finO_own, callA_nil, callA_dat, callA_ali, argS_none, argS_some, rt_ad, nx_ad, isN_none, isN_tup, notN_none, notN_tup, aNx, aRet, aIf, aSet, aAug, aDrop, aNever, aC, aBin, aBinR, aUn, aTst, aChain, aNot, aAnd, aOr, aIfE, aAndV, aOrV, aNotV, aNil, aCons, aTup, aLst, aCall1, aCallD, aIx, aApp, aExt, aSetIx, aTru, sLen, sAny, sAll, sSum, sList, sTuple, fI, fC, fB, aSeqI, aRng1, aFor, aFrz, gN, aUnp, aLc, aYes, aCall, aRep, aRgT, turn, wipeA, br_true, br_false, List.map_nil, List.map_cons, List.nil_append, List.cons_append, List.replicate, List.getElem?_cons_zero, List.getElem?_cons_succ, List.set_cons_zero, List.set_cons_succ, List.length_cons, List.length_nil, sIn_int, sNotIn_int, sEq_int, sNe_int, sEq_bool, sNe_bool, sEq_str, aSeq]
    refine ⟨trivial, trivial, fun _ => trivial, ?_⟩
    refine for_inv (enc := tI) (xs := setsOf p) (fun pre ρ => (∀ v ∈ pre, hits w v = false) ∧ ∃ x2, ρ = [some (.dat (.int p)), some (.dat (eR w)), x2, none]) ⟨fun _ z => (nomatch z), _, rfl⟩ ?_ ?_
    · rintro pre a post e ρ ⟨hp, x2, rfl⟩ Kn kn
      have ha : a ∈ setsOf p := by rw [e]; simp
      simp only [eR, aName_eq, nm_dat, nm_own, dd_dat, dd_own, bb_bool, arg_dat, arg_own, arg_ali, das_nil, das_dat, cont_list, cont_tup, cont_own, cont_ali, contS_own, ownL_own, ownO_own, stor_dat, stor_own, iD_int, ii_int, i1_int, sAddU_int, sAddU_tup, truS_none, truS_bool, truS_int, truS_list, truS_tup, truS_ali, srcOf_list, srcOf_tup, srcOf_ali, Ab.got_some, gZ_nil, gC_cons, gT_tup, onlyDat_dat, notAli_dat, notAli_own, getO_some, fin_none, fin_some, finO_own, callA_nil, callA_dat, callA_ali, argS_none, argS_some, rt_ad, nx_ad, isN_none, isN_tup, notN_none, notN_tup, aNx, aRet, aIf, aSet, aAug, aDrop, aNever, aC, aBin, aBinR, aUn, aTst, aChain, aNot, aAnd, aOr, aIfE, aAndV, aOrV, aNotV, aNil, aCons, aTup, aLst, aCall1, aCallD, aIx, aApp, aExt, aSetIx, aTru, sLen, sAny, sAll, sSum, sList, sTuple, fI, fC, fB, aSeqI, aRng1, aFor, aFrz, gN, aUnp, aLc, aYes, aCall, aRep, aRgT, turn, wipeA, br_true, br_false, List.map_nil, List.map_cons, List.nil_append, List.cons_append, List.replicate, List.getElem?_cons_zero, List.getElem?_cons_succ, List.set_cons_zero, List.set_cons_succ, List.length_cons, List.length_nil, sIn_int, sNotIn_int, sEq_int, sNe_int, sEq_bool, sNe_bool, sEq_str, aSeq]
      refine lc_map (enc := tI) (fun r => .bool (hit r a)) trivial (by simp [Ab.freeOf]) (small_len (by have := hw.few; omega)) (fun r hr Ka Ks ka => ?_) ?_
      · simp only [aName_eq, nm_dat, nm_own, dd_dat, dd_own, bb_bool, arg_dat, arg_own, arg_ali, das_nil, das_dat, cont_list, cont_tup, cont_own, cont_ali, contS_own, ownL_own, ownO_own, stor_dat, stor_own, iD_int, ii_int, i1_int, sAddU_int, sAddU_tup, truS_none, truS_bool, truS_int, truS_list, truS_tup, truS_ali, srcOf_list, srcOf_tup, srcOf_ali, Ab.got_some, gZ_nil, gC_cons, gT_tup, onlyDat_dat, notAli_dat, notAli_own, getO_some, fin_none, fin_some, finO_own, callA_nil, callA_dat, callA_ali, argS_none, argS_some, rt_ad, nx_ad, isN_none, isN_tup, notN_none, notN_tup, aNx, aRet, aIf, aSet, aAug, aDrop, aNever, aC, aBin, aBinR, aUn, aTst, aChain, aNot, aAnd, aOr, aIfE, aAndV, aOrV, aNotV, aNil, aCons, aTup, aLst, aCall1, aCallD, aIx, aApp, aExt, aSetIx, aTru, sLen, sAny, sAll, sSum, sList, sTuple, fI, fC, fB, aSeqI, aRng1, aFor, aFrz, gN, aUnp, aLc, aYes, aCall, aRep, aRgT, turn, wipeA, br_true, br_false, List.map_nil, List.map_cons, List.nil_append, List.cons_append, List.replicate, List.getElem?_cons_zero, List.getElem?_cons_succ, List.set_cons_zero, List.set_cons_succ, List.length_cons, List.length_nil, sIn_int, sNotIn_int, sEq_int, sNe_int, sEq_bool, sNe_bool, sEq_str, aSeq]
        have := (hw.each r hr).len
        exact ⟨r, a, rfl, rfl, by omega, rfl, ka⟩
      · simp only [bools_map, all_map, aName_eq, nm_dat, nm_own, dd_dat, dd_own, bb_bool, arg_dat, arg_own, arg_ali, das_nil, das_dat, cont_list, cont_tup, cont_own, cont_ali, contS_own, ownL_own, ownO_own, stor_dat, stor_own, iD_int, ii_int, i1_int, sAddU_int, sAddU_tup, truS_none, truS_bool, truS_int, truS_list, truS_tup, truS_ali, srcOf_list, srcOf_tup, srcOf_ali, Ab.got_some, gZ_nil, gC_cons, gT_tup, onlyDat_dat, notAli_dat, notAli_own, getO_some, fin_none, fin_some, finO_own, callA_nil, callA_dat, callA_ali, argS_none, argS_some, rt_ad, nx_ad, isN_none, isN_tup, notN_none, notN_tup, aNx, aRet, aIf, aSet, aAug, aDrop, aNever, aC, aBin, aBinR, aUn, aTst, aChain, aNot, aAnd, aOr, aIfE, aAndV, aOrV, aNotV, aNil, aCons, aTup, aLst, aCall1, aCallD, aIx, aApp, aExt, aSetIx, aTru, sLen, sAny, sAll, sSum, sList, sTuple, fI, fC, fB, aSeqI, aRng1, aFor, aFrz, gN, aUnp, aLc, aYes, aCall, aRep, aRgT, turn, wipeA, br_true, br_false, List.map_nil, List.map_cons, List.nil_append, List.cons_append, List.replicate, List.getElem?_cons_zero, List.getElem?_cons_succ, List.set_cons_zero, List.set_cons_succ, List.length_cons, List.length_nil, sIn_int, sNotIn_int, sEq_int, sNe_int, sEq_bool, sNe_bool, sEq_str, aSeq]
        refine ⟨trivial, fun hh => ?_, fun hh => kn _ ⟨fun v hv => (List.mem_append.mp hv).elim (hp v) fun z => by rw [List.mem_singleton.mp z]; exact hh, _, rfl⟩⟩
        have ef : fatalF p w = some a := by
          unfold fatalF
          rw [e, List.find?_append, List.find?_eq_none.mpr fun q hq => by simp [hp q hq]]
          have hh2 : hits w a = true := hh
          simp [hh2]
        rw [ef] at hs
        cases hs
        exact k
    · rintro ρ ⟨hp, x2, rfl⟩
      have ef : fatalF p w = none := List.find?_eq_none.mpr fun q hq => by simp [hp q hq]
      rw [ef] at hs
      cases hs
theorem ok_survives (D : Defs K mg) : FnOk P w K mg base CX0 3 D.f_survives D.fd_survives ["places", "rows"] (toSp K sp_survives) := by
  have G_fatal : FnOk P w K mg base CX0 2 D.f_fatal D.fd_fatal ["places", "rows"] (toSp K sp_fatal) := ok_fatal D
  refine ok_def D.F_survives sc_survives (fun oo ds Kc h => ?_) (fun cdv A outer s H E hr =>
      (ss_one (s_ret (e_op op_sub dr_i (e_callB call_len_seq dc_len (by rfl) D.b_len PySem.boot_len (e_call G_fatal (hr.mono (by decide)) (by rfl) D.g_fatal D.F_fatal.kp D.n_fatal (x_cons (e_name (pv 0)) (x_cons (e_name (pv 1)) x_nil)))) e_int)))) (fun oo ds Kc h => ?_)
  · obtain ⟨p, w, s, rfl, rfl, _⟩ := h
    rfl
  · obtain ⟨p, w, s, rfl, rfl, hw, hs, k⟩ := h
    simp only [aName_eq, nm_dat, nm_own, dd_dat, dd_own, bb_bool, arg_dat, arg_own, arg_ali, das_nil, das_dat, cont_list, cont_tup, cont_own, cont_ali, contS_own, ownL_own, ownO_own, stor_dat, stor_own, iD_int, ii_int, i1_int, sAddU_int, sAddU_tup, truS_none, truS_bool, truS_int, truS_list, truS_tup, truS_ali, srcOf_list, srcOf_tup, srcOf_ali, Ab.got_some, gZ_nil, gC_cons, gT_tup, onlyDat_dat, notAli_dat, notAli_own, getO_some, fin_none, fin_some, finO_own, callA_nil, callA_dat, callA_ali, argS_none, argS_some, rt_ad, nx_ad, isN_none, isN_tup, notN_none, notN_tup, aNx, aRet, aIf, aSet, aAug, aDrop, aNever, aC, aBin, aBinR, aUn, aTst, aChain, aNot, aAnd, aOr, aIfE, aAndV, aOrV, aNotV, aNil, aCons, aTup, aLst, aCall1, aCallD, aIx, aApp, aExt, aSetIx, aTru, sLen, sAny, sAll, sSum, sList, sTuple, fI, fC, fB, aSeqI, aRng1, aFor, aFrz, gN, aUnp, aLc, aYes, aCall, aRep, aRgT, turn, wipeA, br_true, br_false, List.map_nil, List.map_cons, List.nil_append, List.cons_append, List.replicate, List.getElem?_cons_zero, List.getElem?_cons_succ, List.set_cons_zero, List.set_cons_succ, List.length_cons, List.length_nil, sIn_int, sNotIn_int, sEq_int, sNe_int, sEq_bool, sNe_bool, sEq_str, aSeq]
    refine ⟨p, w, s, rfl, rfl, hw, hs, rfl, ?_⟩
    simp only [tI, List.length_map, aName_eq, nm_dat, nm_own, dd_dat, dd_own, bb_bool, arg_dat, arg_own, arg_ali, das_nil, das_dat, cont_list, cont_tup, cont_own, cont_ali, contS_own, ownL_own, ownO_own, stor_dat, stor_own, iD_int, ii_int, i1_int, sAddU_int, sAddU_tup, truS_none, truS_bool, truS_int, truS_list, truS_tup, truS_ali, srcOf_list, srcOf_tup, srcOf_ali, Ab.got_some, gZ_nil, gC_cons, gT_tup, onlyDat_dat, notAli_dat, notAli_own, getO_some, fin_none, fin_some, finO_own, callA_nil, callA_dat, callA_ali, argS_none, argS_some, rt_ad, nx_ad, isN_none, isN_tup, notN_none, notN_tup, aNx, aRet, aIf, aSet, aAug, aDrop, aNever, aC, aBin, aBinR, aUn, aTst, aChain, aNot, aAnd, aOr, aIfE, aAndV, aOrV, aNotV, aNil, aCons, aTup, aLst, aCall1, aCallD, aIx, aApp, aExt, aSetIx, aTru, sLen, sAny, sAll, sSum, sList, sTuple, fI, fC, fB, aSeqI, aRng1, aFor, aFrz, gN, aUnp, aLc, aYes, aCall, aRep, aRgT, turn, wipeA, br_true, br_false, List.map_nil, List.map_cons, List.nil_append, List.cons_append, List.replicate, List.getElem?_cons_zero, List.getElem?_cons_succ, List.set_cons_zero, List.set_cons_succ, List.length_cons, List.length_nil, sIn_int, sNotIn_int, sEq_int, sNe_int, sEq_bool, sNe_bool, sEq_str, aSeq]
    exact k
theorem ok_dual (D : Defs K mg) : FnOk P w K mg base CX0 2 D.f_dual D.fd_dual ["places", "rows"] (toSp K sp_dual) := by
  have G_check_quorums : FnOk P w K mg base CX0 1 D.f_check_quorums D.fd_check_quorums ["places", "writes", "reads"] (toSp K sp_check_quorums) := ok_check_quorums D
  have G_sets_of : FnOk P w K mg base CX0 1 D.f_sets_of D.fd_sets_of ["places"] (toSp K sp_sets_of) := ok_sets_of D
  have G_is_within : FnOk P w K mg base CX0 1 D.f_is_within D.fd_is_within ["one", "other"] (toSp K sp_is_within) := ok_is_within D
  have G_is_hit : FnOk P w K mg base CX0 1 D.f_is_hit D.fd_is_hit ["row", "down"] (toSp K sp_is_hit) := ok_is_hit D
  refine ok_def D.F_dual sc_dual (fun oo ds Kc h => ?_) (fun cdv A outer s H E hr =>
      (ss_cons (s_expr (e_call G_check_quorums (hr.mono (by decide)) (by rfl) D.g_check_quorums D.F_check_quorums.kp D.n_check_quorums (x_cons (e_name (pv 0)) (x_cons (e_name (pv 1)) (x_cons (e_name (pv 1)) x_nil)))))
      (ss_cons (s_set (ps_set (i := 2) sc_dual.nd rfl (.inl rfl) (e_lst x_nil)))
      (ss_cons (s_for PassesOwn.never rfl (i_seq (e_call G_sets_of (hr.mono (by decide)) (by rfl) D.g_sets_of D.F_sets_of.kp D.n_sets_of (x_cons (e_name (pv 0)) x_nil))) (g_name (pg_name (i := 3) sc_dual.nd rfl (.inr rfl))) (ss_one (s_if (t_w (w_andC (t_truth (e_callB (cr_all rfl) dc_all (by rfl) D.b_all boot_all (e_lc (own := [("row", 4)]) rfl sc_dual.nd (i_seq (e_name (pv 1))) (blkOk_by (by kernel_rfl)) (fun _ _ _ _ _ => (g_name (pg_name (i := 4) sc_dual.nd rfl (by first | exact Or.inl rfl | exact Or.inr rfl)))) (fun _ _ _ _ _ => ts_nil) (fun _ _ _ _ _ => (e_call G_is_hit (hr.mono (by decide)) (by rfl) D.g_is_hit D.F_is_hit.kp D.n_is_hit (x_cons (e_name (pv 4)) (x_cons (e_name (pv 3)) x_nil))))))) (w_and1 (t_not (t_truth (e_callB (cr_any rfl) dc_any (by rfl) D.b_any boot_any (e_lc (own := [("one", 5)]) rfl sc_dual.nd (i_seq (e_name (pv 2))) (blkOk_by (by kernel_rfl)) (fun _ _ _ _ _ => (g_name (pg_name (i := 5) sc_dual.nd rfl (by first | exact Or.inl rfl | exact Or.inr rfl)))) (fun _ _ _ _ _ => ts_nil) (fun _ _ _ _ _ => (e_call G_is_within (hr.mono (by decide)) (by rfl) D.g_is_within D.F_is_within.kp D.n_is_within (x_cons (e_name (pv 5)) (x_cons (e_name (pv 3)) x_nil))))))))))) (ss_one (s_app (pe_append (pv 2) (e_name (pv 3))))) ss_nil)))
      (ss_one (s_ret (e_callTy call_tuple_of dc_tuple (by rfl) D.b_tuple boot_tuple (e_name (pv 2))))))))) (fun oo ds Kc h => ?_)
  · obtain ⟨p, w, rfl, rfl, _⟩ := h
    rfl
  · obtain ⟨p, w, rfl, rfl, hw, k⟩ := h
    have h1 := hw.lo
    have h2 := hw.hi
    simp only [aName_eq, nm_dat, nm_own, dd_dat, dd_own, bb_bool, arg_dat, arg_own, arg_ali, das_nil, das_dat, cont_list, cont_tup, cont_own, cont_ali, contS_own, ownL_own, ownO_own, stor_dat, stor_own, iD_int, ii_int, i1_int, sAddU_int, sAddU_tup, truS_none, truS_bool, truS_int, truS_list, truS_tup, truS_ali, srcOf_list, srcOf_tup, srcOf_ali, Ab.got_some, gZ_nil, gC_cons, gT_tup, onlyDat_dat, notAli_dat, notAli_own, getO_some, fin_none, fin_some, finO_own, callA_nil, callA_dat, callA_ali, argS_none, argS_some, rt_ad, nx_ad, isN_none, isN_tup, notN_none, notN_tup, aNx, aRet, aIf, aSet, aAug, aDrop, aNever, aC, aBin, aBinR, aUn, aTst, aChain, aNot, aAnd, aOr, aIfE, aAndV, aOrV, aNotV, aNil, aCons, aTup, aLst, aCall1, aCallD, aIx, aApp, aExt, aSetIx, aTru, sLen, sAny, sAll, sSum, sList, sTuple, fI, fC, fB, aSeqI, aRng1, aFor, aFrz, gN, aUnp, aLc, aYes, aCall, aRep, aRgT, turn, wipeA, br_true, br_false, List.map_nil, List.map_cons, List.nil_append, List.cons_append, List.replicate, List.getElem?_cons_zero, List.getElem?_cons_succ, List.set_cons_zero, List.set_cons_succ, List.length_cons, List.length_nil, sIn_int, sNotIn_int, sEq_int, sNe_int, sEq_bool, sNe_bool, sEq_str, aSeq]
    refine ⟨p, w, w, rfl, rfl, hw, hw, rfl, ?_⟩
    simp only [aName_eq, nm_dat, nm_own, dd_dat, dd_own, bb_bool, arg_dat, arg_own, arg_ali, das_nil, das_dat, cont_list, cont_tup, cont_own, cont_ali, contS_own, ownL_own, ownO_own, stor_dat, stor_own, iD_int, ii_int, i1_int, sAddU_int, sAddU_tup, truS_none, truS_bool, truS_int, truS_list, truS_tup, truS_ali, srcOf_list, srcOf_tup, srcOf_ali, Ab.got_some, gZ_nil, gC_cons, gT_tup, onlyDat_dat, notAli_dat, notAli_own, getO_some, fin_none, fin_some, finO_own, callA_nil, callA_dat, callA_ali, argS_none, argS_some, rt_ad, nx_ad, isN_none, isN_tup, notN_none, notN_tup, aNx, aRet, aIf, aSet, aAug, aDrop, aNever, aC, aBin, aBinR, aUn, aTst, aChain, aNot, aAnd, aOr, aIfE, aAndV, aOrV, aNotV, aNil, aCons, aTup, aLst, aCall1, aCallD, aIx, aApp, aExt, aSetIx, aTru, sLen, sAny, sAll, sSum, sList, sTuple, fI, fC, fB, aSeqI, aRng1, aFor, aFrz, gN, aUnp, aLc, aYes, aCall, aRep, aRgT, turn, wipeA, br_true, br_false, List.map_nil, List.map_cons, List.nil_append, List.cons_append, List.replicate, List.getElem?_cons_zero, List.getElem?_cons_succ, List.set_cons_zero, List.set_cons_succ, List.length_cons, List.length_nil, sIn_int, sNotIn_int, sEq_int, sNe_int, sEq_bool, sNe_bool, sEq_str, aSeq]
    refine ⟨small_le (by decide), p, rfl, rfl, by omega, h2, ?_⟩
    simp only [aName_eq, nm_dat, nm_own, dd_dat, dd_own, bb_bool, arg_dat, arg_own, arg_ali, das_nil, das_dat, cont_list, cont_tup, cont_own, cont_ali, contS_own, ownL_own, ownO_own, stor_dat, stor_own, iD_int, ii_int, i1_int, sAddU_int, sAddU_tup, truS_none, truS_bool, truS_int, truS_list, truS_tup, truS_ali, srcOf_list, srcOf_tup, srcOf_ali, Ab.got_some, gZ_nil, gC_cons, gT_tup, onlyDat_dat, notAli_dat, notAli_own, getO_some, fin_none, fin_some, finO_own, callA_nil, callA_dat, callA_ali, argS_none, argS_some, rt_ad, nx_ad, isN_none, isN_tup, notN_none, notN_tup, aNx, aRet, aIf, aSet, aAug, aDrop, aNever, aC, aBin, aBinR, aUn, aTst, aChain, aNot, aAnd, aOr, aIfE, aAndV, aOrV, aNotV, aNil, aCons, aTup, aLst, aCall1, aCallD, aIx, aApp, aExt, aSetIx, aTru, sLen, sAny, sAll, sSum, sList, sTuple, fI, fC, fB, aSeqI, aRng1, aFor, aFrz, gN, aUnp, aLc, aYes, aCall, aRep, aRgT, turn, wipeA, br_true, br_false, List.map_nil, List.map_cons, List.nil_append, List.cons_append, List.replicate, List.getElem?_cons_zero, List.getElem?_cons_succ, List.set_cons_zero, List.set_cons_succ, List.length_cons, List.length_nil, sIn_int, sNotIn_int, sEq_int, sNe_int, sEq_bool, sNe_bool, sEq_str, aSeq]
    refine ⟨trivial, trivial, fun _ => trivial, ?_⟩
    refine for_inv (enc := tI) (xs := setsOf p) (fun pre ρ => ∃ x3, ρ = [some (.dat (.int p)), some (.dat (eR w)), some (.own none (.lst ((minsF (hits w) pre).map tI))), x3, none, none]) ⟨_, rfl⟩ ?_ ?_
    · rintro pre a post e ρ ⟨x3, rfl⟩ Kn kn
      have ha : a ∈ setsOf p := by rw [e]; simp
      simp only [eR, aName_eq, nm_dat, nm_own, dd_dat, dd_own, bb_bool, arg_dat, arg_own, arg_ali, das_nil, das_dat, cont_list, cont_tup, cont_own, cont_ali, contS_own, ownL_own, ownO_own, stor_dat, stor_own, iD_int, ii_int, i1_int, sAddU_int, sAddU_tup, truS_none, truS_bool, truS_int, truS_list, truS_tup, truS_ali, srcOf_list, srcOf_tup, srcOf_ali, Ab.got_some, gZ_nil, gC_cons, gT_tup, onlyDat_dat, notAli_dat, notAli_own, getO_some, fin_none, fin_some, finO_own, callA_nil, callA_dat, callA_ali, argS_none, argS_some, rt_ad, nx_ad, isN_none, isN_tup, notN_none, notN_tup, aNx, aRet, aIf, aSet, aAug, aDrop, aNever, aC, aBin, aBinR, aUn, aTst, aChain, aNot, aAnd, aOr, aIfE, aAndV, aOrV, aNotV, aNil, aCons, aTup, aLst, aCall1, aCallD, aIx, aApp, aExt, aSetIx, aTru, sLen, sAny, sAll, sSum, sList, sTuple, fI, fC, fB, aSeqI, aRng1, aFor, aFrz, gN, aUnp, aLc, aYes, aCall, aRep, aRgT, turn, wipeA, br_true, br_false, List.map_nil, List.map_cons, List.nil_append, List.cons_append, List.replicate, List.getElem?_cons_zero, List.getElem?_cons_succ, List.set_cons_zero, List.set_cons_succ, List.length_cons, List.length_nil, sIn_int, sNotIn_int, sEq_int, sNe_int, sEq_bool, sNe_bool, sEq_str, aSeq]
      refine lc_map (enc := tI) (fun r => .bool (hit r a)) trivial (by simp [Ab.freeOf]) (small_len (by have := hw.few; omega)) (fun r hr Ka Ks ka => ?_) ?_
      · simp only [aName_eq, nm_dat, nm_own, dd_dat, dd_own, bb_bool, arg_dat, arg_own, arg_ali, das_nil, das_dat, cont_list, cont_tup, cont_own, cont_ali, contS_own, ownL_own, ownO_own, stor_dat, stor_own, iD_int, ii_int, i1_int, sAddU_int, sAddU_tup, truS_none, truS_bool, truS_int, truS_list, truS_tup, truS_ali, srcOf_list, srcOf_tup, srcOf_ali, Ab.got_some, gZ_nil, gC_cons, gT_tup, onlyDat_dat, notAli_dat, notAli_own, getO_some, fin_none, fin_some, finO_own, callA_nil, callA_dat, callA_ali, argS_none, argS_some, rt_ad, nx_ad, isN_none, isN_tup, notN_none, notN_tup, aNx, aRet, aIf, aSet, aAug, aDrop, aNever, aC, aBin, aBinR, aUn, aTst, aChain, aNot, aAnd, aOr, aIfE, aAndV, aOrV, aNotV, aNil, aCons, aTup, aLst, aCall1, aCallD, aIx, aApp, aExt, aSetIx, aTru, sLen, sAny, sAll, sSum, sList, sTuple, fI, fC, fB, aSeqI, aRng1, aFor, aFrz, gN, aUnp, aLc, aYes, aCall, aRep, aRgT, turn, wipeA, br_true, br_false, List.map_nil, List.map_cons, List.nil_append, List.cons_append, List.replicate, List.getElem?_cons_zero, List.getElem?_cons_succ, List.set_cons_zero, List.set_cons_succ, List.length_cons, List.length_nil, sIn_int, sNotIn_int, sEq_int, sNe_int, sEq_bool, sNe_bool, sEq_str, aSeq]
        have := (hw.each r hr).len
        exact ⟨r, a, rfl, rfl, by omega, rfl, ka⟩
      · simp only [bools_map, all_map, aName_eq, nm_dat, nm_own, dd_dat, dd_own, bb_bool, arg_dat, arg_own, arg_ali, das_nil, das_dat, cont_list, cont_tup, cont_own, cont_ali, contS_own, ownL_own, ownO_own, stor_dat, stor_own, iD_int, ii_int, i1_int, sAddU_int, sAddU_tup, truS_none, truS_bool, truS_int, truS_list, truS_tup, truS_ali, srcOf_list, srcOf_tup, srcOf_ali, Ab.got_some, gZ_nil, gC_cons, gT_tup, onlyDat_dat, notAli_dat, notAli_own, getO_some, fin_none, fin_some, finO_own, callA_nil, callA_dat, callA_ali, argS_none, argS_some, rt_ad, nx_ad, isN_none, isN_tup, notN_none, notN_tup, aNx, aRet, aIf, aSet, aAug, aDrop, aNever, aC, aBin, aBinR, aUn, aTst, aChain, aNot, aAnd, aOr, aIfE, aAndV, aOrV, aNotV, aNil, aCons, aTup, aLst, aCall1, aCallD, aIx, aApp, aExt, aSetIx, aTru, sLen, sAny, sAll, sSum, sList, sTuple, fI, fC, fB, aSeqI, aRng1, aFor, aFrz, gN, aUnp, aLc, aYes, aCall, aRep, aRgT, turn, wipeA, br_true, br_false, List.map_nil, List.map_cons, List.nil_append, List.cons_append, List.replicate, List.getElem?_cons_zero, List.getElem?_cons_succ, List.set_cons_zero, List.set_cons_succ, List.length_cons, List.length_nil, sIn_int, sNotIn_int, sEq_int, sNe_int, sEq_bool, sNe_bool, sEq_str, aSeq]
        have hpre : ∀ v ∈ pre, v ∈ setsOf p := fun v hv => by rw [e]; exact List.mem_append_left _ hv
        have hlen : (minsF (hits w) pre).length ≤ 64 := by
          have g1 := minsF_len (φ := (hits w)) pre
          have g2 := setsOf_len (p := p) (by omega) (by omega)
          have g3 := congrArg List.length e
          rw [List.length_append, List.length_cons] at g3
          omega
        refine ⟨trivial, fun hh => ?_, fun hh => kn _ ⟨some (.dat (tI a)), ?_⟩⟩
        · refine lc_map (enc := tI) (fun o => .bool (within o a)) rfl (by simp [Ab.freeOf]) (small_len (by omega)) (fun o ho Ka Ks ka => ?_) ?_
          · simp only [aName_eq, nm_dat, nm_own, dd_dat, dd_own, bb_bool, arg_dat, arg_own, arg_ali, das_nil, das_dat, cont_list, cont_tup, cont_own, cont_ali, contS_own, ownL_own, ownO_own, stor_dat, stor_own, iD_int, ii_int, i1_int, sAddU_int, sAddU_tup, truS_none, truS_bool, truS_int, truS_list, truS_tup, truS_ali, srcOf_list, srcOf_tup, srcOf_ali, Ab.got_some, gZ_nil, gC_cons, gT_tup, onlyDat_dat, notAli_dat, notAli_own, getO_some, fin_none, fin_some, finO_own, callA_nil, callA_dat, callA_ali, argS_none, argS_some, rt_ad, nx_ad, isN_none, isN_tup, notN_none, notN_tup, aNx, aRet, aIf, aSet, aAug, aDrop, aNever, aC, aBin, aBinR, aUn, aTst, aChain, aNot, aAnd, aOr, aIfE, aAndV, aOrV, aNotV, aNil, aCons, aTup, aLst, aCall1, aCallD, aIx, aApp, aExt, aSetIx, aTru, sLen, sAny, sAll, sSum, sList, sTuple, fI, fC, fB, aSeqI, aRng1, aFor, aFrz, gN, aUnp, aLc, aYes, aCall, aRep, aRgT, turn, wipeA, br_true, br_false, List.map_nil, List.map_cons, List.nil_append, List.cons_append, List.replicate, List.getElem?_cons_zero, List.getElem?_cons_succ, List.set_cons_zero, List.set_cons_succ, List.length_cons, List.length_nil, sIn_int, sNotIn_int, sEq_int, sNe_int, sEq_bool, sNe_bool, sEq_str, aSeq]
            have hol : o.length ≤ 6 := setsOf_small (p := p) (by omega) (by omega) (hpre o (minsF_sub ho))
            exact ⟨o, a, rfl, rfl, by omega, rfl, ka⟩
          · simp only [bools_map, any_map', aName_eq, nm_dat, nm_own, dd_dat, dd_own, bb_bool, arg_dat, arg_own, arg_ali, das_nil, das_dat, cont_list, cont_tup, cont_own, cont_ali, contS_own, ownL_own, ownO_own, stor_dat, stor_own, iD_int, ii_int, i1_int, sAddU_int, sAddU_tup, truS_none, truS_bool, truS_int, truS_list, truS_tup, truS_ali, srcOf_list, srcOf_tup, srcOf_ali, Ab.got_some, gZ_nil, gC_cons, gT_tup, onlyDat_dat, notAli_dat, notAli_own, getO_some, fin_none, fin_some, finO_own, callA_nil, callA_dat, callA_ali, argS_none, argS_some, rt_ad, nx_ad, isN_none, isN_tup, notN_none, notN_tup, aNx, aRet, aIf, aSet, aAug, aDrop, aNever, aC, aBin, aBinR, aUn, aTst, aChain, aNot, aAnd, aOr, aIfE, aAndV, aOrV, aNotV, aNil, aCons, aTup, aLst, aCall1, aCallD, aIx, aApp, aExt, aSetIx, aTru, sLen, sAny, sAll, sSum, sList, sTuple, fI, fC, fB, aSeqI, aRng1, aFor, aFrz, gN, aUnp, aLc, aYes, aCall, aRep, aRgT, turn, wipeA, br_true, br_false, List.map_nil, List.map_cons, List.nil_append, List.cons_append, List.replicate, List.getElem?_cons_zero, List.getElem?_cons_succ, List.set_cons_zero, List.set_cons_succ, List.length_cons, List.length_nil, sIn_int, sNotIn_int, sEq_int, sNe_int, sEq_bool, sNe_bool, sEq_str, aSeq]
            refine ⟨trivial, fun h3 => ?_, fun h3 => kn _ ⟨some (.dat (tI a)), ?_⟩⟩
            · simp only [List.length_map]
              refine ⟨small_len (by omega), kn _ ⟨some (.dat (tI a)), ?_⟩⟩
              have e2 : minsF (hits w) (pre ++ [a]) = minsF (hits w) pre ++ [a] := by
                rw [minsF_snoc]
                unfold stepM
                rw [if_pos]
                rw [Bool.and_eq_true]
                exact ⟨hh, h3⟩
              rw [e2, List.map_append]
              rfl
            · have e2 : minsF (hits w) (pre ++ [a]) = minsF (hits w) pre := by
                rw [minsF_snoc]
                unfold stepM
                rw [if_neg]
                rw [Bool.and_eq_true]
                rintro ⟨_, h4⟩
                rw [h3] at h4
                cases h4
              rw [e2]
        · have e2 : minsF (hits w) (pre ++ [a]) = minsF (hits w) pre := by
            rw [minsF_snoc]
            unfold stepM
            rw [if_neg]
            rw [Bool.and_eq_true]
            rintro ⟨h4, _⟩
            have h4 : ((hits w) a) = true := h4
            have hh : ((hits w) a) = false := hh
            rw [hh] at h4
            cases h4
          rw [e2]
    · rintro ρ ⟨x3, rfl⟩
      simp only [aName_eq, nm_dat, nm_own, dd_dat, dd_own, bb_bool, arg_dat, arg_own, arg_ali, das_nil, das_dat, cont_list, cont_tup, cont_own, cont_ali, contS_own, ownL_own, ownO_own, stor_dat, stor_own, iD_int, ii_int, i1_int, sAddU_int, sAddU_tup, truS_none, truS_bool, truS_int, truS_list, truS_tup, truS_ali, srcOf_list, srcOf_tup, srcOf_ali, Ab.got_some, gZ_nil, gC_cons, gT_tup, onlyDat_dat, notAli_dat, notAli_own, getO_some, fin_none, fin_some, finO_own, callA_nil, callA_dat, callA_ali, argS_none, argS_some, rt_ad, nx_ad, isN_none, isN_tup, notN_none, notN_tup, aNx, aRet, aIf, aSet, aAug, aDrop, aNever, aC, aBin, aBinR, aUn, aTst, aChain, aNot, aAnd, aOr, aIfE, aAndV, aOrV, aNotV, aNil, aCons, aTup, aLst, aCall1, aCallD, aIx, aApp, aExt, aSetIx, aTru, sLen, sAny, sAll, sSum, sList, sTuple, fI, fC, fB, aSeqI, aRng1, aFor, aFrz, gN, aUnp, aLc, aYes, aCall, aRep, aRgT, turn, wipeA, br_true, br_false, List.map_nil, List.map_cons, List.nil_append, List.cons_append, List.replicate, List.getElem?_cons_zero, List.getElem?_cons_succ, List.set_cons_zero, List.set_cons_succ, List.length_cons, List.length_nil, sIn_int, sNotIn_int, sEq_int, sNe_int, sEq_bool, sNe_bool, sEq_str, aSeq]
      exact k
end
end K75

set_option maxHeartbeats 4000000
namespace K75
open PySem PySem.Spec PyProof.Rows L2 Ab
theorem intsD_map : ∀ ns : List Int, intsD (ns.map PyData.int) = some ns
  | [] => rfl
  | n :: ns => by
    rw [List.map_cons, intsD, intsD_map ns]
    rfl
theorem sSum_ints {b : Bool} {ns : List Int} {k : AV → Prop} : sSum b (ns.map PyData.int) k = k (.dat (.int ns.sum)) := by
  unfold sSum
  rw [intsD_map]
  rfl
theorem alikeAll_ints (ns : List Int) : PySem.W.AlikeAll (ns.map PyData.int) := ⟨fun x hx y hy => by
  obtain ⟨a, _, rfl⟩ := List.mem_map.mp hx
  obtain ⟨b, _, rfl⟩ := List.mem_map.mp hy
  rfl, fun x hx => by
  obtain ⟨a, _, rfl⟩ := List.mem_map.mp hx
  exact fun z => nomatch z⟩
theorem depth_ints0 (ns : List Int) : PyData.depthAll (ns.map PyData.int) = 0 := Nat.le_zero.mp (depthAll_le (n := 0) (fun _ => Nat.le_refl _) ns)
theorem sMin_ints {b : Bool} {x : Int} {xs : List Int} {k : AV → Prop} (hk : k (.dat (.int (xs.foldl min x)))) : sBest PySem.W.minD b (.int x :: xs.map PyData.int) k :=
  ⟨alikeAll_ints (x :: xs), by rw [show PyData.int x :: xs.map PyData.int = (x :: xs).map PyData.int from rfl, depth_ints0]; exact Nat.zero_le _, by rw [PySem.W.minD_ints]; exact hk⟩
theorem sMax_ints {b : Bool} {x : Int} {xs : List Int} {k : AV → Prop} (hk : k (.dat (.int (xs.foldl max x)))) : sBest PySem.W.maxD b (.int x :: xs.map PyData.int) k :=
  ⟨alikeAll_ints (x :: xs), by rw [show PyData.int x :: xs.map PyData.int = (x :: xs).map PyData.int from rfl, depth_ints0]; exact Nat.zero_le _, by rw [PySem.W.maxD_ints]; exact hk⟩
theorem foldl_min_ge {a : Int} : ∀ {xs : List Int} {x : Int}, a ≤ x → (∀ y ∈ xs, a ≤ y) → a ≤ xs.foldl min x
  | [], x, h, _ => h
  | y :: xs, x, h, h2 => by
    rw [List.foldl_cons]
    exact foldl_min_ge (Int.le_min.mpr ⟨h, h2 y List.mem_cons_self⟩) fun z hz => h2 z (List.mem_cons_of_mem _ hz)
theorem sMin_nonneg {b : Bool} {ws : List Int} {k : AV → Prop} (h1 : ws ≠ []) (h : ∀ x ∈ ws, 0 ≤ x) (hk : ∀ m : Int, 0 ≤ m → k (.dat (.int m))) : sBest PySem.W.minD b (ws.map PyData.int) k := by
  cases ws with
  | nil => exact absurd rfl h1
  | cons x xs => exact sMin_ints (hk _ (foldl_min_ge (h x List.mem_cons_self) fun y hy => h y (List.mem_cons_of_mem _ hy)))
theorem atI_nn {xs : List Int} {a : Int} (h0 : 0 ≤ a) (h : a < xs.length) : atI (xs.map PyData.int) a = some (.int (xs.getD a.toNat 0)) := by
  have g := atI_ints (xs := xs) (k := a.toNat) (by omega)
  rw [Int.toNat_of_nonneg h0] at g
  exact g
section
variable {P : Program} {w : World} {K : PySem.W.Frag} {mg : Str → Option Value} {base : Heap}
theorem ok_majorities (D : Defs K mg) : FnOk P w K mg base CX0 2 D.f_majorities D.fd_majorities ["weights", "need"] (toSp K sp_majorities) := by
  have G_sets_of : FnOk P w K mg base CX0 1 D.f_sets_of D.fd_sets_of ["places"] (toSp K sp_sets_of) := ok_sets_of D
  have G_is_within : FnOk P w K mg base CX0 1 D.f_is_within D.fd_is_within ["one", "other"] (toSp K sp_is_within) := ok_is_within D
  refine ok_def D.F_majorities sc_majorities (fun oo ds Kc h => ?_) (fun cdv A outer s H E hr =>
      (ss_cons (s_if (t_not (t_chain op_le dr_b op_le dr_b e_int (e_callB call_len_seq dc_len (by rfl) D.b_len PySem.boot_len (e_name (pv 0))) (e_globI (by rfl) D.c_MOST_PLACES))) ss_never ss_nil)
      (ss_cons (s_if (t_w (w_orC (t_cmp op_lt dr_b (e_callB (cr_minD rfl hr.units) dc_best (by rfl) D.b_min boot_min (e_name (pv 0))) e_int (nomark _)) (w_or1 (t_not (t_chain op_le dr_b op_le dr_b e_int (e_name (pv 1)) (e_callB (cr_sum2 rfl) dc_sum (by rfl) D.b_sum boot_sum (e_name (pv 0)))))))) ss_never ss_nil)
      (ss_cons (s_set (ps_set (i := 2) sc_majorities.nd rfl (.inl rfl) (e_lst x_nil)))
      (ss_cons (s_for PassesOwn.never rfl (i_seq (e_call G_sets_of (hr.mono (by decide)) (by rfl) D.g_sets_of D.F_sets_of.kp D.n_sets_of (x_cons (e_callB call_len_seq dc_len (by rfl) D.b_len PySem.boot_len (e_name (pv 0))) x_nil))) (g_name (pg_name (i := 3) sc_majorities.nd rfl (.inr rfl))) (ss_one (s_if (t_w (w_andC (t_cmp op_ge dr_b (e_callB (cr_sum2 rfl) dc_sum (by rfl) D.b_sum boot_sum (e_lc (own := [("place", 4)]) rfl sc_majorities.nd (i_seq (e_name (pv 3))) (blkOk_by (by kernel_rfl)) (fun _ _ _ _ _ => (g_name (pg_name (i := 4) sc_majorities.nd rfl (by first | exact Or.inl rfl | exact Or.inr rfl)))) (fun _ _ _ _ _ => ts_nil) (fun _ _ _ _ _ => (e_ix (e_name (pv 0)) (e_name (pv 4)))))) (e_name (pv 1)) (nomark _)) (w_and1 (t_not (t_truth (e_callB (cr_any rfl) dc_any (by rfl) D.b_any boot_any (e_lc (own := [("one", 5)]) rfl sc_majorities.nd (i_seq (e_name (pv 2))) (blkOk_by (by kernel_rfl)) (fun _ _ _ _ _ => (g_name (pg_name (i := 5) sc_majorities.nd rfl (by first | exact Or.inl rfl | exact Or.inr rfl)))) (fun _ _ _ _ _ => ts_nil) (fun _ _ _ _ _ => (e_call G_is_within (hr.mono (by decide)) (by rfl) D.g_is_within D.F_is_within.kp D.n_is_within (x_cons (e_name (pv 5)) (x_cons (e_name (pv 3)) x_nil))))))))))) (ss_one (s_app (pe_append (pv 2) (e_name (pv 3))))) ss_nil)))
      (ss_one (s_ret (e_callTy call_tuple_of dc_tuple (by rfl) D.b_tuple boot_tuple (e_name (pv 2)))))))))) (fun oo ds Kc h => ?_)
  · obtain ⟨ws, need, rfl, rfl, _⟩ := h
    rfl
  · obtain ⟨ws, need, rfl, rfl, h1, h6, h0, n1, n2, k⟩ := h
    have h3 : (1 : Int) ≤ (ws.length : Int) := by omega
    have h4 : (ws.length : Int) ≤ 6 := by omega
    simp only [tI, List.length_map, h3, h4, decide_true, Bool.not_true, aName_eq, nm_dat, nm_own, dd_dat, dd_own, bb_bool, arg_dat, arg_own, arg_ali, das_nil, das_dat, cont_list, cont_tup, cont_own, cont_ali, contS_own, ownL_own, ownO_own, stor_dat, stor_own, iD_int, ii_int, i1_int, sAddU_int, sAddU_tup, truS_none, truS_bool, truS_int, truS_list, truS_tup, truS_ali, srcOf_list, srcOf_tup, srcOf_ali, Ab.got_some, gZ_nil, gC_cons, gT_tup, onlyDat_dat, notAli_dat, notAli_own, getO_some, fin_none, fin_some, finO_own, callA_nil, callA_dat, callA_ali, argS_none, argS_some, rt_ad, nx_ad, isN_none, isN_tup, notN_none, notN_tup, aNx, aRet, aIf, aSet, aAug, aDrop, aNever, aC, aBin, aBinR, aUn, aTst, aChain, aNot, aAnd, aOr, aIfE, aAndV, aOrV, aNotV, aNil, aCons, aTup, aLst, aCall1, aCallD, aIx, aApp, aExt, aSetIx, aTru, sLen, sAny, sAll, sSum, sList, sTuple, fI, fC, fB, aSeqI, aRng1, aFor, aFrz, gN, aUnp, aLc, aYes, aCall, aRep, aRgT, turn, wipeA, br_true, br_false, List.map_nil, List.map_cons, List.nil_append, List.cons_append, List.replicate, List.getElem?_cons_zero, List.getElem?_cons_succ, List.set_cons_zero, List.set_cons_succ, List.length_cons, List.length_nil, sIn_int, sNotIn_int, sEq_int, sNe_int, sEq_bool, sNe_bool, sEq_str, aSeq]
    refine sMin_nonneg (by intro e; rw [e] at h1; simp at h1) h0 fun m hm => ?_
    have hm2 : decide (m < 0) = false := decide_eq_false (by omega)
    simp only [dd_dat, ii_int, fB, bb_bool, hm2, br_false, n1, decide_true, br_true, intsD_map, Ab.got_some, n2, Bool.not_true]
    refine ⟨small_le (by decide), (ws.length : Int), rfl, rfl, by omega, h4, ?_⟩
    simp only [aName_eq, nm_dat, nm_own, dd_dat, dd_own, bb_bool, arg_dat, arg_own, arg_ali, das_nil, das_dat, cont_list, cont_tup, cont_own, cont_ali, contS_own, ownL_own, ownO_own, stor_dat, stor_own, iD_int, ii_int, i1_int, sAddU_int, sAddU_tup, truS_none, truS_bool, truS_int, truS_list, truS_tup, truS_ali, srcOf_list, srcOf_tup, srcOf_ali, Ab.got_some, gZ_nil, gC_cons, gT_tup, onlyDat_dat, notAli_dat, notAli_own, getO_some, fin_none, fin_some, finO_own, callA_nil, callA_dat, callA_ali, argS_none, argS_some, rt_ad, nx_ad, isN_none, isN_tup, notN_none, notN_tup, aNx, aRet, aIf, aSet, aAug, aDrop, aNever, aC, aBin, aBinR, aUn, aTst, aChain, aNot, aAnd, aOr, aIfE, aAndV, aOrV, aNotV, aNil, aCons, aTup, aLst, aCall1, aCallD, aIx, aApp, aExt, aSetIx, aTru, sLen, sAny, sAll, sSum, sList, sTuple, fI, fC, fB, aSeqI, aRng1, aFor, aFrz, gN, aUnp, aLc, aYes, aCall, aRep, aRgT, turn, wipeA, br_true, br_false, List.map_nil, List.map_cons, List.nil_append, List.cons_append, List.replicate, List.getElem?_cons_zero, List.getElem?_cons_succ, List.set_cons_zero, List.set_cons_succ, List.length_cons, List.length_nil, sIn_int, sNotIn_int, sEq_int, sNe_int, sEq_bool, sNe_bool, sEq_str, aSeq]
    refine ⟨trivial, trivial, fun _ => trivial, ?_⟩
    refine for_inv (enc := tI) (xs := setsOf ws.length) (fun pre ρ => ∃ x3, ρ = [some (.dat (tI ws)), some (.dat (.int need)), some (.own none (.lst ((minsF (fun s => decide (need ≤ wt ws s)) pre).map tI))), x3, none, none]) ⟨_, rfl⟩ ?_ ?_
    · rintro pre a post e ρ ⟨x3, rfl⟩ Kn kn
      have ha : a ∈ setsOf ws.length := by rw [e]; simp
      obtain ⟨_, ha2⟩ := (setsOf_mem (by omega) a).mp ha
      have hal : a.length ≤ 6 := setsOf_small (by omega) h4 ha
      simp only [tI, aName_eq, nm_dat, nm_own, dd_dat, dd_own, bb_bool, arg_dat, arg_own, arg_ali, das_nil, das_dat, cont_list, cont_tup, cont_own, cont_ali, contS_own, ownL_own, ownO_own, stor_dat, stor_own, iD_int, ii_int, i1_int, sAddU_int, sAddU_tup, truS_none, truS_bool, truS_int, truS_list, truS_tup, truS_ali, srcOf_list, srcOf_tup, srcOf_ali, Ab.got_some, gZ_nil, gC_cons, gT_tup, onlyDat_dat, notAli_dat, notAli_own, getO_some, fin_none, fin_some, finO_own, callA_nil, callA_dat, callA_ali, argS_none, argS_some, rt_ad, nx_ad, isN_none, isN_tup, notN_none, notN_tup, aNx, aRet, aIf, aSet, aAug, aDrop, aNever, aC, aBin, aBinR, aUn, aTst, aChain, aNot, aAnd, aOr, aIfE, aAndV, aOrV, aNotV, aNil, aCons, aTup, aLst, aCall1, aCallD, aIx, aApp, aExt, aSetIx, aTru, sLen, sAny, sAll, sSum, sList, sTuple, fI, fC, fB, aSeqI, aRng1, aFor, aFrz, gN, aUnp, aLc, aYes, aCall, aRep, aRgT, turn, wipeA, br_true, br_false, List.map_nil, List.map_cons, List.nil_append, List.cons_append, List.replicate, List.getElem?_cons_zero, List.getElem?_cons_succ, List.set_cons_zero, List.set_cons_succ, List.length_cons, List.length_nil, sIn_int, sNotIn_int, sEq_int, sNe_int, sEq_bool, sNe_bool, sEq_str, aSeq]
      refine lc_map (enc := PyData.int) (fun x => .int (ws.getD x.toNat 0)) trivial (by simp [Ab.freeOf]) (small_len (by omega)) (fun x hx Ka Ks ka => ?_) ?_
      · simp only [aName_eq, nm_dat, nm_own, dd_dat, dd_own, bb_bool, arg_dat, arg_own, arg_ali, das_nil, das_dat, cont_list, cont_tup, cont_own, cont_ali, contS_own, ownL_own, ownO_own, stor_dat, stor_own, iD_int, ii_int, i1_int, sAddU_int, sAddU_tup, truS_none, truS_bool, truS_int, truS_list, truS_tup, truS_ali, srcOf_list, srcOf_tup, srcOf_ali, Ab.got_some, gZ_nil, gC_cons, gT_tup, onlyDat_dat, notAli_dat, notAli_own, getO_some, fin_none, fin_some, finO_own, callA_nil, callA_dat, callA_ali, argS_none, argS_some, rt_ad, nx_ad, isN_none, isN_tup, notN_none, notN_tup, aNx, aRet, aIf, aSet, aAug, aDrop, aNever, aC, aBin, aBinR, aUn, aTst, aChain, aNot, aAnd, aOr, aIfE, aAndV, aOrV, aNotV, aNil, aCons, aTup, aLst, aCall1, aCallD, aIx, aApp, aExt, aSetIx, aTru, sLen, sAny, sAll, sSum, sList, sTuple, fI, fC, fB, aSeqI, aRng1, aFor, aFrz, gN, aUnp, aLc, aYes, aCall, aRep, aRgT, turn, wipeA, br_true, br_false, List.map_nil, List.map_cons, List.nil_append, List.cons_append, List.replicate, List.getElem?_cons_zero, List.getElem?_cons_succ, List.set_cons_zero, List.set_cons_succ, List.length_cons, List.length_nil, sIn_int, sNotIn_int, sEq_int, sNe_int, sEq_bool, sNe_bool, sEq_str, aSeq]
        rw [atI_nn (ha2 x hx).1 (ha2 x hx).2]
        exact ka
      · rw [show (a.map fun x => PyData.int (ws.getD x.toNat 0)) = (a.map fun x => ws.getD x.toNat 0).map PyData.int by rw [List.map_map]; rfl]
        simp only [intsD_map, aName_eq, nm_dat, nm_own, dd_dat, dd_own, bb_bool, arg_dat, arg_own, arg_ali, das_nil, das_dat, cont_list, cont_tup, cont_own, cont_ali, contS_own, ownL_own, ownO_own, stor_dat, stor_own, iD_int, ii_int, i1_int, sAddU_int, sAddU_tup, truS_none, truS_bool, truS_int, truS_list, truS_tup, truS_ali, srcOf_list, srcOf_tup, srcOf_ali, Ab.got_some, gZ_nil, gC_cons, gT_tup, onlyDat_dat, notAli_dat, notAli_own, getO_some, fin_none, fin_some, finO_own, callA_nil, callA_dat, callA_ali, argS_none, argS_some, rt_ad, nx_ad, isN_none, isN_tup, notN_none, notN_tup, aNx, aRet, aIf, aSet, aAug, aDrop, aNever, aC, aBin, aBinR, aUn, aTst, aChain, aNot, aAnd, aOr, aIfE, aAndV, aOrV, aNotV, aNil, aCons, aTup, aLst, aCall1, aCallD, aIx, aApp, aExt, aSetIx, aTru, sLen, sAny, sAll, sSum, sList, sTuple, fI, fC, fB, aSeqI, aRng1, aFor, aFrz, gN, aUnp, aLc, aYes, aCall, aRep, aRgT, turn, wipeA, br_true, br_false, List.map_nil, List.map_cons, List.nil_append, List.cons_append, List.replicate, List.getElem?_cons_zero, List.getElem?_cons_succ, List.set_cons_zero, List.set_cons_succ, List.length_cons, List.length_nil, sIn_int, sNotIn_int, sEq_int, sNe_int, sEq_bool, sNe_bool, sEq_str, aSeq]
        have hpre : ∀ v ∈ pre, v ∈ setsOf ws.length := fun v hv => by rw [e]; exact List.mem_append_left _ hv
        have hlen : (minsF (fun s => decide (need ≤ wt ws s)) pre).length ≤ 64 := by
          have g1 := minsF_len (φ := fun s => decide (need ≤ wt ws s)) pre
          have g2 := setsOf_len (p := ws.length) (by omega) (by omega)
          have g3 := congrArg List.length e
          rw [List.length_append, List.length_cons] at g3
          omega
        refine ⟨fun hh => ?_, fun hh => kn _ ⟨some (.dat (tI a)), ?_⟩⟩
        · refine lc_map (enc := tI) (fun o => .bool (within o a)) rfl (by simp [Ab.freeOf]) (small_len (by omega)) (fun o ho Ka Ks ka => ?_) ?_
          · simp only [aName_eq, nm_dat, nm_own, dd_dat, dd_own, bb_bool, arg_dat, arg_own, arg_ali, das_nil, das_dat, cont_list, cont_tup, cont_own, cont_ali, contS_own, ownL_own, ownO_own, stor_dat, stor_own, iD_int, ii_int, i1_int, sAddU_int, sAddU_tup, truS_none, truS_bool, truS_int, truS_list, truS_tup, truS_ali, srcOf_list, srcOf_tup, srcOf_ali, Ab.got_some, gZ_nil, gC_cons, gT_tup, onlyDat_dat, notAli_dat, notAli_own, getO_some, fin_none, fin_some, finO_own, callA_nil, callA_dat, callA_ali, argS_none, argS_some, rt_ad, nx_ad, isN_none, isN_tup, notN_none, notN_tup, aNx, aRet, aIf, aSet, aAug, aDrop, aNever, aC, aBin, aBinR, aUn, aTst, aChain, aNot, aAnd, aOr, aIfE, aAndV, aOrV, aNotV, aNil, aCons, aTup, aLst, aCall1, aCallD, aIx, aApp, aExt, aSetIx, aTru, sLen, sAny, sAll, sSum, sList, sTuple, fI, fC, fB, aSeqI, aRng1, aFor, aFrz, gN, aUnp, aLc, aYes, aCall, aRep, aRgT, turn, wipeA, br_true, br_false, List.map_nil, List.map_cons, List.nil_append, List.cons_append, List.replicate, List.getElem?_cons_zero, List.getElem?_cons_succ, List.set_cons_zero, List.set_cons_succ, List.length_cons, List.length_nil, sIn_int, sNotIn_int, sEq_int, sNe_int, sEq_bool, sNe_bool, sEq_str, aSeq]
            have hol : o.length ≤ 6 := setsOf_small (by omega) h4 (hpre o (minsF_sub ho))
            exact ⟨o, a, rfl, rfl, by omega, rfl, ka⟩
          · simp only [bools_map, any_map', aName_eq, nm_dat, nm_own, dd_dat, dd_own, bb_bool, arg_dat, arg_own, arg_ali, das_nil, das_dat, cont_list, cont_tup, cont_own, cont_ali, contS_own, ownL_own, ownO_own, stor_dat, stor_own, iD_int, ii_int, i1_int, sAddU_int, sAddU_tup, truS_none, truS_bool, truS_int, truS_list, truS_tup, truS_ali, srcOf_list, srcOf_tup, srcOf_ali, Ab.got_some, gZ_nil, gC_cons, gT_tup, onlyDat_dat, notAli_dat, notAli_own, getO_some, fin_none, fin_some, finO_own, callA_nil, callA_dat, callA_ali, argS_none, argS_some, rt_ad, nx_ad, isN_none, isN_tup, notN_none, notN_tup, aNx, aRet, aIf, aSet, aAug, aDrop, aNever, aC, aBin, aBinR, aUn, aTst, aChain, aNot, aAnd, aOr, aIfE, aAndV, aOrV, aNotV, aNil, aCons, aTup, aLst, aCall1, aCallD, aIx, aApp, aExt, aSetIx, aTru, sLen, sAny, sAll, sSum, sList, sTuple, fI, fC, fB, aSeqI, aRng1, aFor, aFrz, gN, aUnp, aLc, aYes, aCall, aRep, aRgT, turn, wipeA, br_true, br_false, List.map_nil, List.map_cons, List.nil_append, List.cons_append, List.replicate, List.getElem?_cons_zero, List.getElem?_cons_succ, List.set_cons_zero, List.set_cons_succ, List.length_cons, List.length_nil, sIn_int, sNotIn_int, sEq_int, sNe_int, sEq_bool, sNe_bool, sEq_str, aSeq]
            refine ⟨trivial, fun h3 => ?_, fun h3 => kn _ ⟨some (.dat (tI a)), ?_⟩⟩
            · simp only [List.length_map]
              refine ⟨small_len (by omega), kn _ ⟨some (.dat (tI a)), ?_⟩⟩
              have e2 : minsF (fun s => decide (need ≤ wt ws s)) (pre ++ [a]) = minsF (fun s => decide (need ≤ wt ws s)) pre ++ [a] := by
                rw [minsF_snoc]
                unfold stepM
                rw [if_pos]
                rw [Bool.and_eq_true]
                exact ⟨hh, h3⟩
              rw [e2, List.map_append]
              rfl
            · have e2 : minsF (fun s => decide (need ≤ wt ws s)) (pre ++ [a]) = minsF (fun s => decide (need ≤ wt ws s)) pre := by
                rw [minsF_snoc]
                unfold stepM
                rw [if_neg]
                rw [Bool.and_eq_true]
                rintro ⟨_, h4⟩
                rw [h3] at h4
                cases h4
              rw [e2]
        · have e2 : minsF (fun s => decide (need ≤ wt ws s)) (pre ++ [a]) = minsF (fun s => decide (need ≤ wt ws s)) pre := by
            rw [minsF_snoc]
            unfold stepM
            rw [if_neg]
            rw [Bool.and_eq_true]
            rintro ⟨h4, _⟩
            have h4 : decide (need ≤ wt ws a) = true := h4
            have hh : decide (need ≤ wt ws a) = false := hh
            rw [hh] at h4
            cases h4
          rw [e2]
    · rintro ρ ⟨x3, rfl⟩
      simp only [aName_eq, nm_dat, nm_own, dd_dat, dd_own, bb_bool, arg_dat, arg_own, arg_ali, das_nil, das_dat, cont_list, cont_tup, cont_own, cont_ali, contS_own, ownL_own, ownO_own, stor_dat, stor_own, iD_int, ii_int, i1_int, sAddU_int, sAddU_tup, truS_none, truS_bool, truS_int, truS_list, truS_tup, truS_ali, srcOf_list, srcOf_tup, srcOf_ali, Ab.got_some, gZ_nil, gC_cons, gT_tup, onlyDat_dat, notAli_dat, notAli_own, getO_some, fin_none, fin_some, finO_own, callA_nil, callA_dat, callA_ali, argS_none, argS_some, rt_ad, nx_ad, isN_none, isN_tup, notN_none, notN_tup, aNx, aRet, aIf, aSet, aAug, aDrop, aNever, aC, aBin, aBinR, aUn, aTst, aChain, aNot, aAnd, aOr, aIfE, aAndV, aOrV, aNotV, aNil, aCons, aTup, aLst, aCall1, aCallD, aIx, aApp, aExt, aSetIx, aTru, sLen, sAny, sAll, sSum, sList, sTuple, fI, fC, fB, aSeqI, aRng1, aFor, aFrz, gN, aUnp, aLc, aYes, aCall, aRep, aRgT, turn, wipeA, br_true, br_false, List.map_nil, List.map_cons, List.nil_append, List.cons_append, List.replicate, List.getElem?_cons_zero, List.getElem?_cons_succ, List.set_cons_zero, List.set_cons_succ, List.length_cons, List.length_nil, sIn_int, sNotIn_int, sEq_int, sNe_int, sEq_bool, sNe_bool, sEq_str, aSeq]
      exact k
end
end K75

set_option maxHeartbeats 4000000
namespace K75
open PySem Ab
def setAll (v : Int) (h row : List Int) : List Int := row.foldl (fun h k => h.set k.toNat v) h
theorem setAll_len (v : Int) : ∀ (row h : List Int), (setAll v h row).length = h.length
  | [], h => rfl
  | k :: row, h => by
    show (setAll v (h.set k.toNat v) row).length = _
    rw [setAll_len v row, List.length_set]
theorem setAll_mem (v : Int) : ∀ (row h : List Int) (x : Int), x ∈ setAll v h row → x ∈ h ∨ x = v
  | [], h, x, hx => .inl hx
  | k :: row, h, x, hx => by
    have hx : x ∈ setAll v (h.set k.toNat v) row := hx
    rcases setAll_mem v row _ x hx with hx | hx
    · exact List.mem_or_eq_of_mem_set hx
    · exact .inr hx
theorem setAll_snoc (v : Int) (h row : List Int) (k : Int) : setAll v h (row ++ [k]) = (setAll v h row).set k.toNat v := by
  unfold setAll
  rw [List.foldl_append]
  rfl
theorem foldl_max_le {b : Int} : ∀ {xs : List Int} {a : Int}, a ≤ b → (∀ y ∈ xs, y ≤ b) → xs.foldl max a ≤ b
  | [], a, h, _ => h
  | y :: xs, a, h, h2 => by
    rw [List.foldl_cons]
    exact foldl_max_le (Int.max_le.mpr ⟨h, h2 y List.mem_cons_self⟩) fun z hz => h2 z (List.mem_cons_of_mem _ hz)
theorem foldl_max_ge : ∀ {xs : List Int} {a : Int}, a ≤ xs.foldl max a ∧ ∀ y ∈ xs, y ≤ xs.foldl max a
  | [], a => ⟨Int.le_refl _, fun _ z => nomatch z⟩
  | y :: xs, a => by
    rw [List.foldl_cons]
    obtain ⟨g1, g2⟩ := foldl_max_ge (xs := xs) (a := max a y)
    refine ⟨by omega, fun z hz => ?_⟩
    rcases List.mem_cons.mp hz with rfl | hz
    · omega
    · exact g2 z hz
theorem foldl_max_mem : ∀ {xs : List Int} {a : Int}, xs.foldl max a = a ∨ xs.foldl max a ∈ xs
  | [], a => .inl rfl
  | y :: xs, a => by
    rw [List.foldl_cons]
    rcases foldl_max_mem (xs := xs) (a := max a y) with h | h
    · rw [h]
      by_cases e : y ≤ a
      · exact .inl (by omega)
      · refine .inr ?_
        rw [show max a y = y by omega]
        exact List.mem_cons_self
    · exact .inr (List.mem_cons_of_mem _ h)
/-- the greatest of a row of numbers none below zero -/
theorem max_cons {x : Int} {xs : List Int} (h : 0 ≤ x) : xs.foldl max x = (x :: xs).foldl max 0 := by
  rw [List.foldl_cons, show max 0 x = x by omega]
theorem getD_mem {h : List Int} {k : Nat} (hk : k < h.length) : h.getD k 0 ∈ h := by
  rw [List.getD_eq_getElem?_getD, List.getElem?_eq_getElem hk]
  exact List.getElem_mem hk
theorem sum_nn : ∀ {l : List Int}, (∀ x ∈ l, 0 ≤ x) → 0 ≤ l.sum
  | [], _ => Int.le_refl _
  | x :: l, h => by
    have h1 := h x List.mem_cons_self
    have h2 := sum_nn (l := l) fun y hy => h y (List.mem_cons_of_mem _ hy)
    rw [List.sum_cons]
    omega
theorem getD_nn {cs : List Int} (h : ∀ x ∈ cs, 0 ≤ x) (k : Nat) : 0 ≤ cs.getD k 0 := by
  by_cases hk : k < cs.length
  · exact h _ (getD_mem hk)
  · rw [List.getD_eq_getElem?_getD, List.getElem?_eq_none (by omega)]
    exact Int.le_refl _
structure OkP (p : Int) (s : List Int × Int × List (Int × Int)) (n : Nat) : Prop where
  len : s.1.length = p.toNat
  nn : ∀ x ∈ s.1, 0 ≤ x ∧ x ≤ s.2.1
  l0 : 0 ≤ s.2.1
  few : s.2.2.length ≤ n
  le : ∀ f ∈ s.2.2, f.1 ≤ f.2
abbrev st0 (p : Int) : List Int × Int × List (Int × Int) := (List.replicate p.toNat 0, 0, [])
theorem okP0 (p : Int) : OkP p (st0 p) 0 := ⟨by simp, fun x hx => by rw [List.eq_of_mem_replicate hx]; exact ⟨Int.le_refl _, Int.le_refl _⟩, Int.le_refl _, Nat.le_refl _, fun _ z => nomatch z⟩
theorem okP_step {p : Int} {s : List Int × Int × List (Int × Int)} {n : Nat} (h : OkP p s n) (b : Bool) {row : List Int} (hr : ∀ x ∈ row, 0 ≤ x ∧ x < p) : OkP p (stepP s (b, row)) (n + 1) := by
  obtain ⟨have', last, found⟩ := s
  obtain ⟨h1, h2, h3, h4, h5⟩ := h
  cases b with
  | true =>
    refine ⟨?_, fun x hx => ?_, ?_, Nat.le_succ_of_le h4, h5⟩
    · show (setAll (last + 1) have' row).length = _
      rw [setAll_len]
      exact h1
    · show 0 ≤ x ∧ x ≤ last + 1
      have h3 : 0 ≤ last := h3
      rcases setAll_mem (last + 1) row have' x hx with hx | hx
      · have := h2 x hx
        exact ⟨this.1, by have : x ≤ last := this.2; omega⟩
      · exact ⟨by omega, by omega⟩
    · have h3 : 0 ≤ last := h3
      show 0 ≤ last + 1
      omega
  | false =>
    refine ⟨h1, h2, h3, ?_, fun f hf => ?_⟩
    · show (found ++ [_]).length ≤ n + 1
      rw [List.length_append]
      exact Nat.succ_le_succ h4
    · rcases List.mem_append.mp hf with hf | hf
      · exact h5 f hf
      · rw [List.mem_singleton.mp hf]
        refine foldl_max_le h3 fun y hy => ?_
        obtain ⟨k, hk, rfl⟩ := List.mem_map.mp hy
        have hk := hr k hk
        exact (h2 _ (getD_mem (by rw [h1]; omega))).2
theorem okP_all {p : Int} : ∀ (run : List (Bool × List Int)) {s : List Int × Int × List (Int × Int)} {n : Nat}, OkP p s n → (∀ q ∈ run, ∀ x ∈ q.2, 0 ≤ x ∧ x < p) → OkP p (run.foldl stepP s) (n + run.length)
  | [], s, n, h, _ => h
  | (b, row) :: run, s, n, h, hr => by
    rw [List.foldl_cons, List.length_cons, show n + (run.length + 1) = n + 1 + run.length by omega]
    exact okP_all run (okP_step h b (hr _ List.mem_cons_self)) fun q hq => hr q (List.mem_cons_of_mem _ hq)
def NoOwn (x : Option AV) : Prop := match (some x : Option (Option AV)) with
  | some (some (.own _ _)) => False
  | _ => True
end K75

set_option maxHeartbeats 4000000
/-! M75d: the order of sets, ascending sets, least sets. -/
namespace K75
open PySem Ab
open PySem.W (dataLe dataLt)
theorem tI_lt (a b : List Int) : dataLt (tI a) (tI b) = decide (a < b) := by
  show dataLt (.tuple _) (.tuple _) = _
  rw [PySem.W.dataLt_tuple]
  exact PySem.W.dataLt_ints a b
theorem leK_iff (a b : List Int) : leK a b = true ↔ ¬ (b.length < a.length ∨ (b.length = a.length ∧ b < a)) := by
  show (!dataLt (keyS b) (keyS a)) = true ↔ _
  unfold keyS
  rw [PySem.W.dataLt_pair rfl (alike_tI b a), tI_lt, PySem.W.dataLt_int]
  have f1 : PyData.eqv (.int b.length) (.int a.length) = decide ((b.length : Int) = a.length) := faith_int _ _
  have f2 : PyData.eqv (tI b) (tI a) = decide (b = a) := faith_tup faith_int b a
  rw [f1, f2]
  by_cases e : b.length = a.length
  · by_cases e2 : b = a
    · subst e2
      simp [List.lt_irrefl]
    · simp [e, e2]
  · have e' : ¬ (b.length : Int) = (a.length : Int) := by omega
    simp [e, e']
theorem leK_total (a b : List Int) : (leK a b || leK b a) = true := by
  rw [Bool.or_eq_true, leK_iff, leK_iff]
  by_cases h1 : a.length < b.length
  · left
    omega
  · by_cases h2 : b.length < a.length
    · right
      omega
    · have e : a.length = b.length := by omega
      by_cases h : b < a
      · right
        rintro (h3 | ⟨_, h3⟩)
        · omega
        · exact List.lt_irrefl a (List.lt_trans h3 h)
      · left
        rintro (h3 | ⟨_, h3⟩)
        · omega
        · exact h h3
theorem leK_trans (a b c : List Int) (h1 : leK a b = true) (h2 : leK b c = true) : leK a c = true := by
  rw [leK_iff] at h1 h2 ⊢
  rintro (h | ⟨h, h3⟩)
  · omega
  · have hab : ¬ b < a := fun z => h1 (.inr ⟨by omega, z⟩)
    have hbc : ¬ c < b := fun z => h2 (.inr ⟨by omega, z⟩)
    have g1 : a ≤ b := List.not_lt.mp hab
    have g2 : b ≤ c := List.not_lt.mp hbc
    exact List.not_lt.mpr (List.le_trans g1 g2) h3
theorem leK_anti {a b : List Int} (h1 : leK a b = true) (h2 : leK b a = true) : a = b := by
  rw [leK_iff] at h1 h2
  have hab : ¬ b < a := fun z => h1 (.inr ⟨by omega, z⟩)
  have hba : ¬ a < b := fun z => h2 (.inr ⟨by omega, z⟩)
  exact List.le_antisymm (List.not_lt.mp hab) (List.not_lt.mp hba)
theorem leK_len {a b : List Int} (h : leK a b = true) : a.length ≤ b.length := by
  rw [leK_iff] at h
  omega
abbrev Srt (l : List (List Int)) : Prop := l.Pairwise fun a b => leK a b = true
theorem uniq {l m : List (List Int)} (h1 : l.Nodup) (h2 : m.Nodup) (h : ∀ x, x ∈ l ↔ x ∈ m) (s1 : Srt l) (s2 : Srt m) : l = m :=
  List.Perm.eq_of_pairwise (fun a b _ _ => leK_anti) s1 s2 ((List.perm_ext_iff_of_nodup h1 h2).mpr h)
/-! ascending lists -/
abbrev Asc (s : List Int) : Prop := s.Pairwise (· < ·)
theorem within_iff {a b : List Int} : within a b = true ↔ ∀ x ∈ a, x ∈ b := by
  unfold within
  rw [List.all_eq_true]
  exact ⟨fun h x hx => of_decide_eq_true (h x hx), fun h x hx => decide_eq_true (h x hx)⟩
theorem within_refl (a : List Int) : within a a = true := within_iff.mpr fun _ h => h
theorem within_trans {a b c : List Int} (h1 : within a b = true) (h2 : within b c = true) : within a c = true := within_iff.mpr fun x hx => within_iff.mp h2 x (within_iff.mp h1 x hx)
theorem hit_iff {a b : List Int} : hit a b = true ↔ ∃ x, x ∈ a ∧ x ∈ b := by
  unfold hit
  rw [List.any_eq_true]
  exact ⟨fun ⟨x, h1, h2⟩ => ⟨x, h1, of_decide_eq_true h2⟩, fun ⟨x, h1, h2⟩ => ⟨x, h1, decide_eq_true h2⟩⟩
theorem hit_comm (a b : List Int) : hit a b = hit b a := by
  rw [Bool.eq_iff_iff, hit_iff, hit_iff]
  exact ⟨fun ⟨x, h1, h2⟩ => ⟨x, h2, h1⟩, fun ⟨x, h1, h2⟩ => ⟨x, h2, h1⟩⟩
theorem hits_iff {rows : List (List Int)} {s : List Int} : hits rows s = true ↔ ∀ r ∈ rows, hit r s = true := by
  unfold hits
  rw [List.all_eq_true]
theorem sub_of : ∀ {b a : List Int}, Asc a → Asc b → (∀ x ∈ a, x ∈ b) → a.Sublist b
  | [], a, _, _, h => by
    cases a with
    | nil => exact .slnil
    | cons x a => exact nomatch h x List.mem_cons_self
  | y :: b, [], _, _, _ => List.nil_sublist _
  | y :: b, x :: a, ha, hb, h => by
    have ha0 := ha
    have ha := List.pairwise_cons.mp ha
    have hb' := List.pairwise_cons.mp hb
    by_cases e : x = y
    · subst e
      refine (sub_of ha.2 hb'.2 fun z hz => ?_).cons_cons x
      rcases List.mem_cons.mp (h z (List.mem_cons_of_mem _ hz)) with rfl | g
      · have := ha.1 _ hz
        omega
      · exact g
    · have hx : x ∈ b := (List.mem_cons.mp (h x List.mem_cons_self)).resolve_left e
      refine (sub_of ha0 hb'.2 fun z hz => ?_).cons y
      rcases List.mem_cons.mp hz with rfl | hz2
      · exact hx
      · have g1 := ha.1 z hz2
        have g2 := hb'.1 x hx
        exact (List.mem_cons.mp (h z hz)).resolve_left (by omega)
theorem asc_within_eq {a b : List Int} (ha : Asc a) (hb : Asc b) (h : within a b = true) (hl : b.length ≤ a.length) : a = b := (sub_of ha hb (within_iff.mp h)).eq_of_length_le hl
theorem asc_ext {a b : List Int} (ha : Asc a) (hb : Asc b) (h : ∀ x, x ∈ a ↔ x ∈ b) : a = b :=
  (sub_of ha hb fun x hx => (h x).mp hx).eq_of_length_le (sub_of hb ha fun x hx => (h x).mpr hx).length_le
/-! the row of all sets -/
theorem subsN_nodup : ∀ n, (subsN n).Nodup
  | 0 => by simp [subsN]
  | n + 1 => by
    unfold subsN
    rw [List.nodup_append]
    refine ⟨subsN_nodup n, ?_, fun a ha b hb e => ?_⟩
    · refine List.Pairwise.map _ (fun a b h => ?_) (subsN_nodup n)
      intro e
      exact h (List.append_cancel_right e)
    · obtain ⟨r, hr, rfl⟩ := List.mem_map.mp hb
      subst e
      have := (((subsN_mem n _).mp ha).2 n (by simp)).2
      omega
theorem setsOf_nodup (p : Int) : (setsOf p).Nodup := (List.mergeSort_perm _ _).nodup_iff.mpr (subsN_nodup _)
theorem setsOf_srt (p : Int) : Srt (setsOf p) := List.pairwise_mergeSort leK_trans leK_total _
/-- an ascending set of places -/
structure IsSet (p : Int) (s : List Int) : Prop where
  asc : Asc s
  rng : ∀ x ∈ s, 0 ≤ x ∧ x < p
theorem mem_sets {p : Int} (hp : 0 ≤ p) {s : List Int} : s ∈ setsOf p ↔ IsSet p s := (setsOf_mem hp s).trans ⟨fun ⟨a, b⟩ => ⟨a, b⟩, fun ⟨a, b⟩ => ⟨a, b⟩⟩
/-! least sets -/
theorem minsF_subl {φ : List Int → Bool} : ∀ S : List (List Int), (minsF φ S).Sublist S := fun S => by
  have go : ∀ (S acc P : List (List Int)), acc.Sublist P → (S.foldl (stepM φ) acc).Sublist (P ++ S) := by
    intro S
    induction S with
    | nil => intro acc P h; simpa using h
    | cons a S ih =>
      intro acc P h
      have g : (stepM φ acc a).Sublist (P ++ [a]) := by
        unfold stepM
        split
        · exact h.append (List.Sublist.refl _)
        · exact h.trans (List.sublist_append_left _ _)
      have := ih _ _ g
      rw [List.append_assoc] at this
      exact this
  have g := go S [] [] .slnil
  rwa [List.nil_append] at g
theorem rev_ind {α : Type} {C : List α → Prop} (h0 : C []) (hs : ∀ l a, C l → C (l ++ [a])) : ∀ l, C l := fun l => by
  have : ∀ m : List α, C m.reverse := by
    intro m
    induction m with
    | nil => exact h0
    | cons a m ih =>
      rw [List.reverse_cons]
      exact hs _ _ ih
  have g := this l.reverse
  rwa [List.reverse_reverse] at g
theorem stepM_iff {φ : List Int → Bool} {found : List (List Int)} {a x : List Int} : x ∈ stepM φ found a ↔ x ∈ found ∨ (x = a ∧ φ a = true ∧ ∀ o ∈ found, within o a = false) := by
  unfold stepM
  split
  · rename_i h
    rw [Bool.and_eq_true] at h
    obtain ⟨h1, h2⟩ := h
    have h3 : ∀ o ∈ found, within o a = false := fun o ho => by
      have g : (found.any fun one => within one a) = false := by simpa using h2
      rw [List.any_eq_false] at g
      simpa using g o ho
    rw [List.mem_append, List.mem_singleton]
    exact ⟨fun h => h.imp id fun e => ⟨e, h1, h3⟩, fun h => h.imp id fun e => e.1⟩
  · rename_i h
    refine ⟨fun h => .inl h, fun g => g.elim id fun ⟨_, g1, g2⟩ => absurd ?_ h⟩
    rw [Bool.and_eq_true]
    refine ⟨g1, ?_⟩
    have : (found.any fun one => within one a) = false := by
      rw [List.any_eq_false]
      intro o ho
      simp [g2 o ho]
    rw [this]
    rfl
theorem minsF_cover {φ : List Int → Bool} : ∀ (S : List (List Int)) (y : List Int), y ∈ S → φ y = true → ∃ m ∈ minsF φ S, within m y = true := by
  refine rev_ind (fun y h => nomatch h) fun S a ih y hy hφ => ?_
  rw [minsF_snoc]
  rcases List.mem_append.mp hy with hy | hy
  · obtain ⟨m, h1, h2⟩ := ih y hy hφ
    exact ⟨m, stepM_iff.mpr (.inl h1), h2⟩
  · have e := List.mem_singleton.mp hy
    subst e
    by_cases h : ∀ o ∈ minsF φ S, within o y = false
    · exact ⟨y, stepM_iff.mpr (.inr ⟨rfl, hφ, h⟩), within_refl y⟩
    · obtain ⟨o, ho⟩ := Classical.not_forall.mp h
      obtain ⟨ho, h2⟩ := Classical.not_imp.mp ho
      exact ⟨o, stepM_iff.mpr (.inl ho), by simpa using h2⟩
theorem minsF_mem {φ : List Int → Bool} : ∀ (S : List (List Int)), S.Nodup → Srt S → (∀ s ∈ S, Asc s) → ∀ x, x ∈ minsF φ S ↔ x ∈ S ∧ φ x = true ∧ ∀ y ∈ S, φ y = true → within y x = true → y = x := by
  refine rev_ind (fun _ _ _ x => ⟨fun h => (nomatch h), fun h => (nomatch h.1)⟩) fun S a ih nd so asc x => ?_
  rw [List.nodup_append] at nd
  rw [Srt, List.pairwise_append] at so
  have asc1 : ∀ s ∈ S, Asc s := fun s hs => asc s (List.mem_append_left _ hs)
  have asca : Asc a := asc a (by simp)
  have IH := ih nd.1 so.1 asc1
  have ne : ∀ y ∈ S, y ≠ a := fun y hy => nd.2.2 y hy a (by simp)
  have no : ∀ y ∈ S, within a y = false := fun y hy => by
    cases h : within a y with
    | false => rfl
    | true => exact absurd (asc_within_eq asca (asc1 y hy) h (leK_len (so.2.2 y hy a (by simp)))).symm (ne y hy)
  rw [minsF_snoc, stepM_iff, IH x]
  constructor
  · rintro (⟨h1, h2, h3⟩ | ⟨rfl, h2, h3⟩)
    · refine ⟨List.mem_append_left _ h1, h2, fun y hy hφ hw => ?_⟩
      rcases List.mem_append.mp hy with hy | hy
      · exact h3 y hy hφ hw
      · rw [List.mem_singleton.mp hy, no x h1] at hw
        cases hw
    · refine ⟨by simp, h2, fun y hy hφ hw => ?_⟩
      rcases List.mem_append.mp hy with hy | hy
      · obtain ⟨m, hm, hw2⟩ := minsF_cover S y hy hφ
        have := h3 m hm
        rw [within_trans hw2 hw] at this
        cases this
      · exact List.mem_singleton.mp hy
  · rintro ⟨h1, h2, h3⟩
    rcases List.mem_append.mp h1 with h1 | h1
    · exact .inl ⟨h1, h2, fun y hy => h3 y (List.mem_append_left _ hy)⟩
    · have e := List.mem_singleton.mp h1
      subst e
      refine .inr ⟨rfl, h2, fun o ho => ?_⟩
      cases h : within o x with
      | false => rfl
      | true =>
        obtain ⟨g1, g2, _⟩ := (IH o).mp ho
        exact absurd (h3 o (List.mem_append_left _ g1) g2 h) (ne o g1)
theorem minsF_head {φ : List Int → Bool} : ∀ S : List (List Int), (minsF φ S).head? = S.find? φ := by
  refine rev_ind rfl fun S a ih => ?_
  rw [minsF_snoc, List.find?_append, ← ih]
  unfold stepM
  cases h : minsF φ S with
  | nil =>
    simp only [List.any_nil, Bool.not_false, Bool.and_true, List.head?_nil, Option.none_or, List.nil_append]
    cases hφ : φ a <;> simp [hφ]
  | cons b l => split <;> simp
theorem minsF_congr {φ ψ : List Int → Bool} {S : List (List Int)} (h : ∀ x ∈ S, φ x = ψ x) : minsF φ S = minsF ψ S := by
  have go : ∀ (S : List (List Int)) (acc : List (List Int)), (∀ x ∈ S, φ x = ψ x) → S.foldl (stepM φ) acc = S.foldl (stepM ψ) acc := by
    intro S
    induction S with
    | nil => intro acc _; rfl
    | cons a S ih =>
      intro acc h
      rw [List.foldl_cons, List.foldl_cons, show stepM φ acc a = stepM ψ acc a by unfold stepM; rw [h a List.mem_cons_self]]
      exact ih _ fun x hx => h x (List.mem_cons_of_mem _ hx)
  exact go S [] h
/-- the least sets among all sets of places -/
theorem mins_mem {p : Int} (hp : 0 ≤ p) {φ : List Int → Bool} {x : List Int} : x ∈ minsF φ (setsOf p) ↔ IsSet p x ∧ φ x = true ∧ ∀ y, IsSet p y → φ y = true → within y x = true → y = x := by
  rw [minsF_mem _ (setsOf_nodup p) (setsOf_srt p) fun s hs => ((mem_sets hp).mp hs).asc, mem_sets hp]
  exact ⟨fun ⟨a, b, c⟩ => ⟨a, b, fun y hy => c y ((mem_sets hp).mpr hy)⟩, fun ⟨a, b, c⟩ => ⟨a, b, fun y hy => c y ((mem_sets hp).mp hy)⟩⟩
theorem mins_cover {p : Int} (hp : 0 ≤ p) {φ : List Int → Bool} {y : List Int} (hy : IsSet p y) (h : φ y = true) : ∃ m ∈ minsF φ (setsOf p), within m y = true := minsF_cover _ y ((mem_sets hp).mpr hy) h
theorem mins_nodup {p : Int} {φ : List Int → Bool} : (minsF φ (setsOf p)).Nodup := (minsF_subl _).nodup (setsOf_nodup p)
theorem mins_srt {p : Int} {φ : List Int → Bool} : Srt (minsF φ (setsOf p)) := (setsOf_srt p).sublist (minsF_subl _)
end K75

set_option maxHeartbeats 4000000
/-! M75e: the law's facts in plain lists. -/
namespace K75
open PySem Ab
def meetB (A B : List (List Int)) : Bool := A.all fun a => !(B.any fun b => !hit a b)
theorem meetB_iff {A B : List (List Int)} : meetB A B = true ↔ ∀ a ∈ A, ∀ b ∈ B, hit a b = true := by
  unfold meetB
  rw [List.all_eq_true]
  refine forall_congr' fun a => imp_congr_right fun _ => ?_
  rw [Bool.not_eq_true', List.any_eq_false]
  refine forall_congr' fun b => imp_congr_right fun _ => ?_
  simp
theorem len0 {α : Type} (l : List α) (p : α → Bool) : decide (((l.filter p).length : Int) = 0) = l.all fun x => !p x := by
  rw [Bool.eq_iff_iff, decide_eq_true_eq, List.all_eq_true]
  constructor
  · intro h x hx
    have h : l.filter p = [] := List.eq_nil_of_length_eq_zero (by omega)
    have := List.filter_eq_nil_iff.mp h x hx
    simpa using this
  · intro h
    rw [List.filter_eq_nil_iff.mpr fun x hx => by simpa using h x hx]
    rfl
theorem lenP {α : Type} (l : List α) (p : α → Bool) : decide ((0 : Int) < ((l.filter p).length : Int)) = l.any p := by
  rw [Bool.eq_iff_iff, decide_eq_true_eq, List.any_eq_true]
  constructor
  · intro h
    obtain ⟨x, hx⟩ := List.exists_mem_of_length_pos (by omega : 0 < (l.filter p).length)
    exact ⟨x, List.mem_filter.mp hx⟩
  · rintro ⟨x, h1, h2⟩
    have := List.length_pos_of_mem (List.mem_filter.mpr ⟨h1, h2⟩)
    omega
theorem firstA_spec : ∀ {W R : List (List Int)}, (meetB W R = true ∧ firstA W R = none) ∨ ∃ a b, meetB W R = false ∧ firstA W R = some (a, b) ∧ a ∈ W ∧ b ∈ R ∧ hit a b = false
  | [], R => .inl ⟨rfl, rfl⟩
  | w :: W, R => by
    have em : meetB (w :: W) R = (!(R.any fun b => !hit w b) && meetB W R) := rfl
    unfold firstA
    cases h : R.find? fun r => !(hit w r) with
    | some r =>
      have h1 := List.find?_some h
      have h2 := List.mem_of_find?_eq_some h
      have h3 : (R.any fun b => !hit w b) = true := List.any_eq_true.mpr ⟨r, h2, h1⟩
      refine .inr ⟨w, r, ?_, rfl, List.mem_cons_self, h2, by simpa using h1⟩
      rw [em, h3]
      rfl
    | none =>
      have h3 : (R.any fun b => !hit w b) = false := by
        rw [List.any_eq_false]
        exact List.find?_eq_none.mp h
      rw [em, h3]
      rcases firstA_spec (W := W) (R := R) with ⟨g1, g2⟩ | ⟨a, b, g1, g2, g3, g4, g5⟩
      · exact .inl ⟨by rw [g1]; rfl, g2⟩
      · exact .inr ⟨a, b, by rw [g1]; rfl, g2, List.mem_cons_of_mem _ g3, g4, g5⟩
theorem stale_none {W R : List (List Int)} (h : meetB W R = true) : eStale W R = .none := by
  rcases firstA_spec (W := W) (R := R) with ⟨g1, g2⟩ | ⟨a, b, g1, g2, g3, g4, g5⟩
  · unfold eStale
    rw [g2]
  · rw [h] at g1
    cases g1
theorem stale_some {W R : List (List Int)} (h : meetB W R = false) : ∃ a b, a ∈ W ∧ b ∈ R ∧ hit a b = false ∧ eStale W R = .tuple [eRun (true, a), eRun (false, b)] := by
  rcases firstA_spec (W := W) (R := R) with ⟨g1, g2⟩ | ⟨a, b, g1, g2, g3, g4, g5⟩
  · rw [h] at g1
    cases g1
  · refine ⟨a, b, g3, g4, g5, ?_⟩
    unfold eStale
    rw [g2]
theorem clash_all {W R : List (List Int)} : (meetB W R = true ∧ meetB W W = true ∧ eClash W R = .none) ∨ (meetB W R = false ∧ ∃ a b : List Int, eClash W R = .tuple [sv "read", tI a, tI b]) ∨ (meetB W R = true ∧ meetB W W = false ∧ ∃ a b : List Int, eClash W R = .tuple [sv "write", tI a, tI b]) := by
  rcases firstA_spec (W := W) (R := R) with ⟨g1, g2⟩ | ⟨a, b, g1, g2, _⟩
  · rcases firstA_spec (W := W) (R := W) with ⟨f1, f2⟩ | ⟨a, b, f1, f2, _⟩
    · refine .inl ⟨g1, f1, ?_⟩
      unfold eClash
      rw [g2, f2]
    · refine .inr (.inr ⟨g1, f1, a, b, ?_⟩)
      unfold eClash
      rw [g2, f2]
  · refine .inr (.inl ⟨g1, a, b, ?_⟩)
    unfold eClash
    rw [g2]
/-! the run -/
theorem getD_set {h : List Int} {i j : Nat} {v : Int} (hi : i < h.length) : (h.set i v).getD j 0 = if i = j then v else h.getD j 0 := by
  rw [List.getD_eq_getElem?_getD, List.getD_eq_getElem?_getD, List.getElem?_set]
  by_cases e : i = j
  · subst e
    simp [hi]
  · simp [e]
theorem setAll_get {v : Int} : ∀ (row h : List Int) (k : Int), (∀ x ∈ row, 0 ≤ x ∧ x < h.length) → 0 ≤ k → (setAll v h row).getD k.toNat 0 = if k ∈ row then v else h.getD k.toNat 0
  | [], h, k, _, _ => by simp [setAll]
  | x :: row, h, k, hr, hk => by
    show (setAll v (h.set x.toNat v) row).getD k.toNat 0 = _
    have hx := hr x List.mem_cons_self
    rw [setAll_get row (h.set x.toNat v) k (fun y hy => by rw [List.length_set]; exact hr y (List.mem_cons_of_mem _ hy)) hk, getD_set (by omega)]
    by_cases e : x = k
    · subst e
      simp
    · have e1 : ¬ x.toNat = k.toNat := by omega
      have e2 : ¬ k = x := fun z => e z.symm
      simp [e1, e2]
/-- the greatest of a row that holds its bound -/
theorem max_is {xs : List Int} {m : Int} (h1 : m ∈ xs) (h2 : ∀ x ∈ xs, x ≤ m) (h0 : 0 ≤ m) : xs.foldl max 0 = m := by
  have := (foldl_max_ge (xs := xs) (a := 0)).2 m h1
  have := foldl_max_le (xs := xs) (a := 0) (b := m) h0 h2
  omega
theorem stale_play {p : Int} {a b : List Int} (hp : 0 ≤ p) (ha : OkSet p a) (hb : OkSet p b) (h : hit a b = false) : playF p [(true, a), (false, b)] = [(0, 1)] := by
  show [((b.map fun k => (setAll (0 + 1) (List.replicate p.toNat 0) a).getD k.toNat 0).foldl max 0, (0 + 1 : Int))] = _
  have e : ∀ x ∈ b.map fun k => (setAll (0 + 1) (List.replicate p.toNat 0) a).getD k.toNat 0, x ≤ 0 := fun x hx => by
    obtain ⟨k, hk, rfl⟩ := List.mem_map.mp hx
    have hn : k ∉ a := fun hka => by
      rw [hit_iff.mpr ⟨k, hka, hk⟩] at h
      cases h
    rw [setAll_get a _ k (fun y hy => by rw [List.length_replicate]; have := ha.rng y hy; omega) (hb.rng k hk).1, if_neg hn, List.getD_eq_getElem?_getD, List.getElem?_replicate]
    split <;> simp
  have g1 := foldl_max_le (xs := b.map fun k => (setAll (0 + 1) (List.replicate p.toNat 0) a).getD k.toNat 0) (a := 0) (b := 0) (Int.le_refl _) e
  have g2 := (foldl_max_ge (xs := b.map fun k => (setAll (0 + 1) (List.replicate p.toNat 0) a).getD k.toNat 0) (a := 0)).1
  rw [show (b.map fun k => (setAll (0 + 1) (List.replicate p.toNat 0) a).getD k.toNat 0).foldl max 0 = 0 by omega]
  rfl
/-- what the last write left -/
structure Lst (W : List (List Int)) (s : List Int × Int × List (Int × Int)) : Prop where
  last : s.2.1 = 0 ∨ ∃ w ∈ W, ∀ k ∈ w, s.1.getD k.toNat 0 = s.2.1
  eq : ∀ f ∈ s.2.2, f.1 = f.2
theorem lst_all {p : Int} {W R : List (List Int)} (hm : meetB W R = true) (hW : ∀ w ∈ W, OkSet p w) (hR : ∀ r ∈ R, OkSet p r) : ∀ (run : List (Bool × List Int)) {s : List Int × Int × List (Int × Int)} {n : Nat}, OkP p s n → Lst W s → (∀ q ∈ run, (q.1 = true → q.2 ∈ W) ∧ (q.1 = false → q.2 ∈ R)) → Lst W (run.foldl stepP s)
  | [], s, n, _, h, _ => h
  | (b, row) :: run, s, n, h, hl, hr => by
    have hq := hr _ List.mem_cons_self
    have hset : OkSet p row := by
      cases b with
      | true => exact hW _ (hq.1 rfl)
      | false => exact hR _ (hq.2 rfl)
    rw [List.foldl_cons]
    refine lst_all hm hW hR run (okP_step h b hset.rng) ?_ fun q hq => hr q (List.mem_cons_of_mem _ hq)
    obtain ⟨have', last, found⟩ := s
    have hlen : have'.length = p.toNat := h.len
    cases b with
    | true =>
      refine ⟨.inr ⟨row, hq.1 rfl, fun k hk => ?_⟩, hl.eq⟩
      show (setAll (last + 1) have' row).getD k.toNat 0 = last + 1
      rw [setAll_get row have' k (fun y hy => by have := hset.rng y hy; omega) (hset.rng k hk).1, if_pos hk]
    | false =>
      refine ⟨hl.last, fun f hf => ?_⟩
      rcases List.mem_append.mp hf with hf | hf
      · exact hl.eq f hf
      · rw [List.mem_singleton.mp hf]
        show (row.map fun k => have'.getD k.toNat 0).foldl max 0 = last
        have up : ∀ x ∈ row.map fun k => have'.getD k.toNat 0, x ≤ last := fun x hx => by
          obtain ⟨k, hk, rfl⟩ := List.mem_map.mp hx
          have := hset.rng k hk
          exact (h.nn _ (getD_mem (by rw [h.len]; omega))).2
        rcases hl.last with h0 | ⟨w, hw, hk⟩
        · have h0 : last = 0 := h0
          have g1 := foldl_max_le (xs := row.map fun k => have'.getD k.toNat 0) (a := 0) (b := last) (by omega) up
          have g2 := (foldl_max_ge (xs := row.map fun k => have'.getD k.toNat 0) (a := 0)).1
          omega
        · obtain ⟨k, k1, k2⟩ := hit_iff.mp (meetB_iff.mp hm w hw row (hq.2 rfl))
          exact max_is (List.mem_map.mpr ⟨k, k2, hk k k1⟩) up h.l0
theorem play_eq {p : Int} {W R : List (List Int)} (hm : meetB W R = true) (hW : ∀ w ∈ W, OkSet p w) (hR : ∀ r ∈ R, OkSet p r) {run : List (Bool × List Int)} (hr : ∀ q ∈ run, (q.1 = true → q.2 ∈ W) ∧ (q.1 = false → q.2 ∈ R)) : ∀ f ∈ playF p run, f.1 = f.2 :=
  (lst_all hm hW hR run (okP0 p) ⟨.inl rfl, fun _ z => nomatch z⟩ hr).eq
theorem play_le {p : Int} {run : List (Bool × List Int)} (hr : ∀ q ∈ run, OkSet p q.2) : ∀ f ∈ playF p run, f.1 ≤ f.2 := (okP_all run (okP0 p) fun q hq => (hr q hq).rng).le
/-! duals -/
def idx (p : Int) : List Int := (List.range p.toNat).map fun (q : Nat) => (q : Int)
theorem idx_mem {p x : Int} : x ∈ idx p ↔ 0 ≤ x ∧ x < p := by
  unfold idx
  rw [List.mem_map]
  constructor
  · rintro ⟨q, hq, rfl⟩
    have := List.mem_range.mp hq
    omega
  · rintro ⟨h1, h2⟩
    exact ⟨x.toNat, List.mem_range.mpr (by omega), by omega⟩
theorem idx_asc (p : Int) : Asc (idx p) := by
  unfold idx
  rw [Asc, List.pairwise_map]
  exact List.pairwise_lt_range.imp fun h => by omega
theorem idx_set (p : Int) : IsSet p (idx p) := ⟨idx_asc p, fun x hx => idx_mem.mp hx⟩
def compl (p : Int) (s : List Int) : List Int := (idx p).filter fun x => !decide (x ∈ s)
theorem compl_mem {p : Int} {s : List Int} {x : Int} : x ∈ compl p s ↔ (0 ≤ x ∧ x < p) ∧ x ∉ s := by
  unfold compl
  rw [List.mem_filter, idx_mem]
  simp
theorem compl_set (p : Int) (s : List Int) : IsSet p (compl p s) := ⟨(idx_asc p).filter _, fun x hx => (compl_mem.mp hx).1⟩
theorem OkSet.set {p : Int} {r : List Int} (h : OkSet p r) : IsSet p r := ⟨h.asc, h.rng⟩
theorem isSet_ext {p : Int} {a b : List Int} (ha : IsSet p a) (hb : IsSet p b) (h1 : within a b = true) (h2 : within b a = true) : a = b := asc_ext ha.asc hb.asc fun x => ⟨within_iff.mp h1 x, within_iff.mp h2 x⟩
/-- a set that meets all that meet each of W holds one of W -/
theorem trans_iff {p : Int} {W : List (List Int)} {x : List Int} (hW : ∀ w ∈ W, IsSet p w) : (∀ T, IsSet p T → hits W T = true → hit T x = true) ↔ ∃ w ∈ W, within w x = true := by
  constructor
  · intro h
    refine Classical.byContradiction fun hn => ?_
    have hc : hits W (compl p x) = true := hits_iff.mpr fun w hw => by
      refine Classical.byContradiction fun hh => hn ⟨w, hw, within_iff.mpr fun y hy => ?_⟩
      refine Classical.byContradiction fun hyx => hh (hit_iff.mpr ⟨y, hy, compl_mem.mpr ⟨(hW w hw).rng y hy, hyx⟩⟩)
    obtain ⟨y, y1, y2⟩ := hit_iff.mp (h _ (compl_set p x) hc)
    exact (compl_mem.mp y1).2 y2
  · rintro ⟨w, hw, hx⟩ T _ hT
    obtain ⟨y, y1, y2⟩ := hit_iff.mp (hits_iff.mp hT w hw)
    exact hit_iff.mpr ⟨y, y2, within_iff.mp hx y y1⟩
theorem dual_mem {p : Int} (hp : 0 ≤ p) {W : List (List Int)} {x : List Int} : x ∈ dualF p W ↔ IsSet p x ∧ hits W x = true ∧ ∀ y, IsSet p y → hits W y = true → within y x = true → y = x := mins_mem hp
theorem hits_dual {p : Int} (hp : 0 ≤ p) {W : List (List Int)} (hW : ∀ w ∈ W, IsSet p w) {x : List Int} : hits (dualF p W) x = true ↔ ∃ w ∈ W, within w x = true := by
  rw [← trans_iff hW, hits_iff]
  constructor
  · intro h T hT hh
    obtain ⟨m, hm, hw⟩ := mins_cover hp hT hh
    obtain ⟨y, y1, y2⟩ := hit_iff.mp (h m hm)
    exact hit_iff.mpr ⟨y, within_iff.mp hw y y1, y2⟩
  · intro h m hm
    obtain ⟨m1, m2, _⟩ := (dual_mem hp).mp hm
    exact h m m1 m2
/-- the dual of the dual is what is least -/
theorem dual_dual {p : Int} (hp : 0 ≤ p) {W : List (List Int)} (hW : ∀ w ∈ W, IsSet p w) (x : List Int) : x ∈ dualF p (dualF p W) ↔ x ∈ W ∧ ∀ o ∈ W, o ≠ x → within o x = false := by
  rw [dual_mem hp]
  constructor
  · rintro ⟨h1, h2, h3⟩
    obtain ⟨w, hw, hwx⟩ := (hits_dual hp hW).mp h2
    have := h3 w (hW w hw) ((hits_dual hp hW).mpr ⟨w, hw, within_refl w⟩) hwx
    subst this
    refine ⟨hw, fun o ho hne => ?_⟩
    cases e : within o w with
    | false => rfl
    | true => exact absurd (h3 o (hW o ho) ((hits_dual hp hW).mpr ⟨o, ho, within_refl o⟩) e) hne
  · rintro ⟨h1, h2⟩
    refine ⟨hW x h1, (hits_dual hp hW).mpr ⟨x, h1, within_refl x⟩, fun y hy hh hyx => ?_⟩
    obtain ⟨w, hw, hwy⟩ := (hits_dual hp hW).mp hh
    have hwx := within_trans hwy hyx
    have : w = x := Classical.byContradiction fun ne => by
      rw [h2 w hw ne] at hwx
      cases hwx
    subst this
    exact isSet_ext hy (hW w hw) hyx hwy
/-- what is least is least -/
theorem mins_least {p : Int} (hp : 0 ≤ p) {φ : List Int → Bool} {S : List (List Int)} (e : S = minsF φ (setsOf p)) (x : List Int) : x ∈ S ↔ x ∈ S ∧ ∀ o ∈ S, o ≠ x → within o x = false := by
  subst e
  refine ⟨fun h => ⟨h, fun o ho hne => ?_⟩, fun h => h.1⟩
  cases e : within o x with
  | false => rfl
  | true =>
    obtain ⟨h1, h2, h3⟩ := (mins_mem hp).mp h
    obtain ⟨o1, o2, _⟩ := (mins_mem hp).mp ho
    exact absurd (h3 o o1 o2 e) hne
/-- few least sets on five places -/
theorem mins_few {p : Int} (hp : 1 ≤ p) (h5 : p ≤ 5) {φ : List Int → Bool} : (minsF φ (setsOf p)).length ≤ 20 := by
  let f : List Int → List Int := fun s => s.filter fun x => !decide (x = 0)
  have inj : ∀ a ∈ minsF φ (setsOf p), ∀ b ∈ minsF φ (setsOf p), f a = f b → a = b := fun a ha b hb e => by
    obtain ⟨a1, a2, a3⟩ := (mins_mem (by omega)).mp ha
    obtain ⟨b1, b2, b3⟩ := (mins_mem (by omega)).mp hb
    have sub : ∀ {u v : List Int}, f u = f v → (0 ∈ u → 0 ∈ v) → within u v = true := fun {u v} e h0 => within_iff.mpr fun x hx => by
      by_cases h : x = 0
      · subst h
        exact h0 hx
      · have : x ∈ f u := List.mem_filter.mpr ⟨hx, by simp [h]⟩
        rw [e] at this
        exact (List.mem_filter.mp this).1
    by_cases h : (0 : Int) ∈ a → (0 : Int) ∈ b
    · exact b3 a a1 a2 (sub e h)
    · exact (a3 b b1 b2 (sub e.symm fun _ => Classical.byContradiction fun z => h fun z2 => absurd z2 z)).symm
  have nd : ((minsF φ (setsOf p)).map f).Nodup := by
    have : ∀ l : List (List Int), l.Nodup → (∀ a ∈ l, ∀ b ∈ l, f a = f b → a = b) → (l.map f).Nodup := by
      intro l
      induction l with
      | nil => intro _ _; simp
      | cons a l ih =>
        intro h1 h2
        rw [List.nodup_cons] at h1
        rw [List.map_cons, List.nodup_cons]
        refine ⟨fun h => ?_, ih h1.2 fun x hx y hy => h2 x (List.mem_cons_of_mem _ hx) y (List.mem_cons_of_mem _ hy)⟩
        obtain ⟨b, hb, e⟩ := List.mem_map.mp h
        have := h2 b (List.mem_cons_of_mem _ hb) a List.mem_cons_self e
        subst this
        exact h1.1 hb
    exact this _ mins_nodup inj
  have hsub : ((minsF φ (setsOf p)).map f) ⊆ ((subsN 5).filter fun s => !decide ((0 : Int) ∈ s)) := fun x hx => by
    obtain ⟨a, ha, rfl⟩ := List.mem_map.mp hx
    obtain ⟨a1, _, _⟩ := (mins_mem (by omega)).mp ha
    rw [List.mem_filter, subsN_mem]
    refine ⟨⟨a1.asc.filter _, fun y hy => ?_⟩, ?_⟩
    · have := a1.rng y (List.mem_filter.mp hy).1
      omega
    · have : (0 : Int) ∉ f a := fun h => by
        have := (List.mem_filter.mp h).2
        simp at this
      simp [this]
  have g := nd.length_le_of_subset hsub
  rw [List.length_map] at g
  have : ((subsN 5).filter fun s => !decide ((0 : Int) ∈ s)).length = 16 := by decide +kernel
  omega
/-- least sets by a word that the full set has and the empty one has not -/
theorem mins_ok {p : Int} (hp : 1 ≤ p) (h5 : p ≤ 5) {φ : List Int → Bool} (h1 : φ (idx p) = true) (h0 : φ [] = false) : OkSets p (minsF φ (setsOf p)) := by
  refine ⟨hp, by omega, ?_, mins_few hp h5, fun r hr => ?_⟩
  · obtain ⟨m, hm, _⟩ := mins_cover (p := p) (by omega) (idx_set p) h1
    exact List.length_pos_of_mem hm
  · obtain ⟨r1, r2, _⟩ := (mins_mem (by omega)).mp hr
    refine ⟨?_, r1.asc, r1.rng⟩
    rintro rfl
    rw [h0] at r2
    cases r2
theorem hits_full {p : Int} {W : List (List Int)} (hW : OkSets p W) : hits W (idx p) = true := hits_iff.mpr fun w hw => by
  have h := hW.each w hw
  obtain ⟨x, hx⟩ := List.exists_mem_of_ne_nil _ h.ne
  exact hit_iff.mpr ⟨x, hx, idx_mem.mpr (h.rng x hx)⟩
theorem hits_nil {p : Int} {W : List (List Int)} (hW : OkSets p W) : hits W [] = false := by
  cases h : hits W [] with
  | false => rfl
  | true =>
    obtain ⟨w, hw⟩ := List.exists_mem_of_length_pos (l := W) (by have := hW.one; omega)
    obtain ⟨x, _, hx⟩ := hit_iff.mp (hits_iff.mp h w hw)
    cases hx
theorem dual_ok {p : Int} (h5 : p ≤ 5) {W : List (List Int)} (hW : OkSets p W) : OkSets p (dualF p W) := mins_ok hW.lo h5 (hits_full hW) (hits_nil hW)
theorem fatal_head {p : Int} {W : List (List Int)} : fatalF p W = (dualF p W).head? := (minsF_head _).symm
end K75

set_option maxHeartbeats 4000000
/-! M75f: weights, loads. -/
namespace K75
open PySem Ab
/-! sums over the places -/
def sumP (f : Int → Int) (l : List Int) : Int := (l.map f).sum
theorem sumP_filter (f : Int → Int) (q : Int → Bool) : ∀ l : List Int, sumP f (l.filter q) + sumP f (l.filter fun x => !q x) = sumP f l
  | [] => rfl
  | x :: l => by
    have ih := sumP_filter f q l
    unfold sumP at ih ⊢
    cases h : q x with
    | true =>
      rw [List.filter_cons_of_pos h, List.filter_cons_of_neg (by simp [h])]
      simp only [List.map_cons, List.sum_cons]
      omega
    | false =>
      rw [List.filter_cons_of_neg (by simp [h]), List.filter_cons_of_pos (by simp [h])]
      simp only [List.map_cons, List.sum_cons]
      omega
theorem sumP_mono {f : Int → Int} (h : ∀ x, 0 ≤ f x) {a b : List Int} (s : a.Sublist b) : sumP f a ≤ sumP f b := by
  unfold sumP
  induction s with
  | slnil => exact Int.le_refl _
  | cons x _ ih =>
    rw [List.map_cons, List.sum_cons]
    have := h x
    omega
  | cons_cons x _ ih =>
    rw [List.map_cons, List.map_cons, List.sum_cons, List.sum_cons]
    omega
theorem set_filter {p : Int} {s : List Int} (h : IsSet p s) : s = (idx p).filter fun x => decide (x ∈ s) :=
  asc_ext h.asc ((idx_asc p).filter _) fun x => by
    rw [List.mem_filter, idx_mem, decide_eq_true_eq]
    exact ⟨fun hx => ⟨h.rng x hx, hx⟩, fun hx => hx.2⟩
def wf (ws : List Int) (x : Int) : Int := ws.getD x.toNat 0
theorem wf_nn {ws : List Int} (h : ∀ x ∈ ws, 0 ≤ x) (x : Int) : 0 ≤ wf ws x := getD_nn h _
theorem wt_def (ws s : List Int) : wt ws s = sumP (wf ws) s := rfl
theorem map_range_getD (ws : List Int) : (List.range ws.length).map (fun k => ws.getD k 0) = ws := by
  refine List.ext_getElem (by simp) fun i h1 h2 => ?_
  rw [List.getElem_map, List.getElem_range, List.getD_eq_getElem?_getD, List.getElem?_eq_getElem h2]
  rfl
theorem wt_idx {ws : List Int} {p : Int} (hp : (ws.length : Int) = p) : wt ws (idx p) = ws.sum := by
  unfold wt idx
  rw [List.map_map, ← hp, Int.toNat_natCast]
  congr 1
  exact map_range_getD ws
theorem wt_compl {ws : List Int} {p : Int} (hp : (ws.length : Int) = p) {s : List Int} (h : IsSet p s) : wt ws s + wt ws (compl p s) = ws.sum := by
  rw [← wt_idx hp, wt_def, wt_def, wt_def]
  have := sumP_filter (wf ws) (fun x => decide (x ∈ s)) (idx p)
  rw [← set_filter h] at this
  exact this
theorem wt_mono {ws : List Int} (h0 : ∀ x ∈ ws, 0 ≤ x) {p : Int} {a b : List Int} (ha : IsSet p a) (hb : IsSet p b) (h : within a b = true) : wt ws a ≤ wt ws b := sumP_mono (wf_nn h0) (sub_of ha.asc hb.asc (within_iff.mp h))
theorem wt_apart {ws : List Int} (h0 : ∀ x ∈ ws, 0 ≤ x) {p : Int} (hp : (ws.length : Int) = p) {a b : List Int} (ha : IsSet p a) (hb : IsSet p b) (h : hit a b = false) : wt ws a + wt ws b ≤ ws.sum := by
  have h2 : within a (compl p b) = true := within_iff.mpr fun x hx => compl_mem.mpr ⟨ha.rng x hx, fun hxb => by
    rw [hit_iff.mpr ⟨x, hx, hxb⟩] at h
    cases h⟩
  have := wt_mono h0 ha (compl_set p b) h2
  have := wt_compl hp hb
  omega
section
variable {ws : List Int} {p need : Int} (h0 : ∀ x ∈ ws, 0 ≤ x) (hp : (ws.length : Int) = p) (h1 : 1 ≤ p) (h5 : p ≤ 5) (n1 : 1 ≤ need) (n2 : need ≤ ws.sum)
include h0 hp h1 n1 n2
theorem maj_eq : majF ws need = minsF (fun s => decide (need ≤ wt ws s)) (setsOf p) := by
  unfold majF
  rw [hp]
theorem maj_mem {x : List Int} : x ∈ majF ws need ↔ IsSet p x ∧ need ≤ wt ws x ∧ ∀ y, IsSet p y → need ≤ wt ws y → within y x = true → y = x := by
  rw [maj_eq h0 hp h1 n1 n2, mins_mem (by omega), decide_eq_true_eq]
  simp only [decide_eq_true_eq]
theorem maj_hits {x : List Int} (hx : IsSet p x) : hits (majF ws need) x = decide (ws.sum + 1 - need ≤ wt ws x) := by
  rw [Bool.eq_iff_iff, decide_eq_true_eq, hits_iff]
  constructor
  · intro h
    refine Classical.byContradiction fun hn => ?_
    have hc := wt_compl hp hx
    obtain ⟨m, hm, hw⟩ := mins_cover (p := p) (φ := fun s => decide (need ≤ wt ws s)) (by omega) (compl_set p x) (decide_eq_true (by omega))
    rw [← maj_eq h0 hp h1 n1 n2] at hm
    obtain ⟨y, y1, y2⟩ := hit_iff.mp (h m hm)
    exact (compl_mem.mp (within_iff.mp hw y y1)).2 y2
  · intro h m hm
    obtain ⟨m1, m2, _⟩ := (maj_mem h0 hp h1 n1 n2).mp hm
    cases e : hit m x with
    | true => rfl
    | false =>
      have := wt_apart h0 hp m1 hx e
      omega
theorem maj_dual : dualF p (majF ws need) = majF ws (ws.sum + 1 - need) := by
  unfold dualF
  rw [maj_eq (need := ws.sum + 1 - need) h0 hp h1 (by omega) (by omega)]
  exact minsF_congr fun x hx => maj_hits h0 hp h1 n1 n2 ((mem_sets (by omega)).mp hx)
theorem maj_meet (h : ws.sum < 2 * need) : meetB (majF ws need) (majF ws need) = true := meetB_iff.mpr fun a ha b hb => by
  obtain ⟨a1, a2, _⟩ := (maj_mem h0 hp h1 n1 n2).mp ha
  obtain ⟨b1, b2, _⟩ := (maj_mem h0 hp h1 n1 n2).mp hb
  cases e : hit a b with
  | true => rfl
  | false =>
    have := wt_apart h0 hp a1 b1 e
    omega
theorem maj_meet2 : meetB (majF ws need) (majF ws (ws.sum + 1 - need)) = true := meetB_iff.mpr fun a ha b hb => by
  obtain ⟨a1, a2, _⟩ := (maj_mem h0 hp h1 n1 n2).mp ha
  obtain ⟨b1, b2, _⟩ := (maj_mem h0 hp h1 (by omega) (by omega)).mp hb
  cases e : hit a b with
  | true => rfl
  | false =>
    have := wt_apart h0 hp a1 b1 e
    omega
include h5
theorem maj_ok : OkSets p (majF ws need) := by
  rw [maj_eq h0 hp h1 n1 n2]
  refine mins_ok h1 h5 (decide_eq_true ?_) (decide_eq_false ?_)
  · rw [wt_idx hp]
    exact n2
  · show ¬ need ≤ 0
    omega
end
/-! loads -/
theorem sum_le_all {m : Int} : ∀ {l : List Int}, (∀ x ∈ l, x ≤ m) → l.sum ≤ (l.length : Int) * m
  | [], _ => by simp
  | x :: l, h => by
    have h1 := h x List.mem_cons_self
    have h2 := sum_le_all (l := l) fun y hy => h y (List.mem_cons_of_mem _ hy)
    rw [List.sum_cons, List.length_cons, Int.natCast_succ, Int.add_mul]
    omega
theorem sum_map_add {α : Type} (f g : α → Int) : ∀ l : List α, (l.map fun x => f x + g x).sum = (l.map f).sum + (l.map g).sum
  | [] => rfl
  | x :: l => by
    simp only [List.map_cons, List.sum_cons, sum_map_add f g l]
    omega
theorem sum_map_mul {α : Type} (c : Int) (f : α → Int) : ∀ l : List α, (l.map fun x => c * f x).sum = c * (l.map f).sum
  | [] => by simp
  | x :: l => by
    simp only [List.map_cons, List.sum_cons, sum_map_mul c f l, Int.mul_add]
theorem sum_filter_ite {α : Type} (q : α → Bool) (f : α → Int) : ∀ l : List α, ((l.filter q).map f).sum = (l.map fun x => if q x = true then f x else 0).sum
  | [] => rfl
  | x :: l => by
    cases h : q x with
    | true =>
      rw [List.filter_cons_of_pos h]
      simp only [List.map_cons, List.sum_cons, sum_filter_ite q f l, h, if_true]
    | false =>
      rw [List.filter_cons_of_neg (by simp [h])]
      simp [List.map_cons, List.sum_cons, sum_filter_ite q f l, h]
theorem sum_zero {α : Type} : ∀ l : List α, (l.map fun _ => (0 : Int)).sum = 0
  | [] => rfl
  | x :: l => by
    rw [List.map_cons, List.sum_cons, sum_zero l]
    rfl
theorem sum_swap {α β : Type} (g : α → β → Int) (m : List β) : ∀ l : List α, (l.map fun x => (m.map fun y => g x y).sum).sum = (m.map fun y => (l.map fun x => g x y).sum).sum
  | [] => by simp [sum_zero]
  | x :: l => by
    simp only [List.map_cons, List.sum_cons, sum_swap g m l, sum_map_add]
theorem sum_if_const (c : Int) (s : List Int) : ∀ l : List Int, (l.map fun q => if decide (q ∈ s) = true then c else 0).sum = c * ((l.filter fun q => decide (q ∈ s)).length : Int)
  | [] => by simp
  | q :: l => by
    rw [List.map_cons, List.sum_cons, sum_if_const c s l]
    by_cases h : q ∈ s
    · rw [List.filter_cons_of_pos (by simp [h]), if_pos (by simp [h]), List.length_cons, Int.natCast_succ, Int.mul_add]
      omega
    · rw [List.filter_cons_of_neg (by simp [h]), if_neg (by simp [h])]
      omega
theorem loads_sum {p : Int} {W : List (List Int)} {cs : List Int} (hW : ∀ w ∈ W, IsSet p w) : (loadsF p W cs).sum = ((List.range W.length).map fun k => cs.getD k 0 * ((W.getD k []).length : Int)).sum := by
  have e : loadsF p W cs = (idx p).map fun q => ((List.range W.length).map fun k => if decide (q ∈ W.getD k []) = true then cs.getD k 0 else 0).sum := by
    unfold loadsF idx
    rw [List.map_map]
    refine List.map_congr_left fun q _ => ?_
    rw [sum_filter_ite]
    rfl
  rw [e, sum_swap]
  congr 1
  refine List.map_congr_left fun k hk => ?_
  rw [sum_if_const]
  have hk := List.mem_range.mp hk
  have hw : W.getD k [] ∈ W := by
    rw [List.getD_eq_getElem?_getD, List.getElem?_eq_getElem hk]
    exact List.getElem_mem hk
  rw [← set_filter (hW _ hw)]
theorem loads_len (p : Int) (W : List (List Int)) (cs : List Int) : (loadsF p W cs).length = p.toNat := by
  unfold loadsF
  rw [List.length_map, List.length_range]
theorem sum_mono {α : Type} {f g : α → Int} : ∀ {l : List α}, (∀ x ∈ l, f x ≤ g x) → (l.map f).sum ≤ (l.map g).sum
  | [], _ => Int.le_refl _
  | x :: l, h => by
    have h1 := h x List.mem_cons_self
    have h2 := sum_mono (l := l) fun y hy => h y (List.mem_cons_of_mem _ hy)
    rw [List.map_cons, List.map_cons, List.sum_cons, List.sum_cons]
    omega
theorem loads_ge {p : Int} {W : List (List Int)} {cs : List Int} (hW : OkSets p W) (hc : cs.length = W.length) (h0 : ∀ x ∈ cs, 0 ≤ x) : cs.sum ≤ (loadsF p W cs).sum := by
  rw [loads_sum fun w hw => (hW.each w hw).set]
  have e : cs.sum = ((List.range W.length).map fun k => cs.getD k 0).sum := by rw [← hc, map_range_getD]
  rw [e]
  refine sum_mono fun k hk => ?_
  have hk := List.mem_range.mp hk
  have hw : W.getD k [] ∈ W := by
    rw [List.getD_eq_getElem?_getD, List.getElem?_eq_getElem hk]
    exact List.getElem_mem hk
  have h1 : 1 ≤ ((W.getD k []).length : Int) := by
    have := List.length_pos_iff.mpr (hW.each _ hw).ne
    omega
  have h2 := getD_nn h0 k
  have h3 := Int.mul_le_mul_of_nonneg_left h1 h2
  omega
theorem loads_most {p : Int} {W : List (List Int)} {cs : List Int} (hp : 0 ≤ p) : (loadsF p W cs).sum ≤ p * (loadsF p W cs).foldl max 0 := by
  have h := sum_le_all (l := loadsF p W cs) (foldl_max_ge (a := 0)).2
  rw [loads_len, Int.toNat_of_nonneg hp] at h
  exact h
theorem loads_most2 {p : Int} {W : List (List Int)} {cs : List Int} (hW : OkSets p W) (hc : cs.length = W.length) (h0 : ∀ x ∈ cs, 0 ≤ x) : cs.sum ≤ (loadsF p W cs).foldl max 0 * (W.length : Int) * p := by
  have h1 := loads_ge hW hc h0
  have h2 := loads_most (p := p) (W := W) (cs := cs) (by have := hW.lo; omega)
  have h3 : (1 : Int) ≤ (W.length : Int) := by have := hW.one; omega
  have h4 : 0 ≤ (loadsF p W cs).foldl max 0 := (foldl_max_ge (a := 0)).1
  have h5 := Int.mul_le_mul_of_nonneg_left h3 h4
  have h6 := Int.mul_le_mul_of_nonneg_right h5 (show 0 ≤ p by have := hW.lo; omega)
  rw [Int.mul_one, Int.mul_comm ((loadsF p W cs).foldl max 0) p] at h6
  omega
theorem getD_twice (cs : List Int) (k : Nat) : (cs.map fun x => 2 * x).getD k 0 = 2 * cs.getD k 0 := by
  rw [List.getD_eq_getElem?_getD, List.getD_eq_getElem?_getD, List.getElem?_map]
  cases cs[k]? <;> rfl
theorem loads_twice (p : Int) (W : List (List Int)) (cs : List Int) : loadsF p W (cs.map fun x => 2 * x) = (loadsF p W cs).map fun x => 2 * x := by
  unfold loadsF
  rw [List.map_map]
  refine List.map_congr_left fun q _ => ?_
  show _ = 2 * _
  rw [← sum_map_mul]
  congr 1
  exact List.map_congr_left fun k _ => getD_twice cs k
theorem max_twice : ∀ (l : List Int) (a : Int), (l.map fun x => 2 * x).foldl max (2 * a) = 2 * l.foldl max a
  | [], a => rfl
  | x :: l, a => by
    rw [List.map_cons, List.foldl_cons, List.foldl_cons, show max (2 * a) (2 * x) = 2 * max a x by omega]
    exact max_twice l _
/-- one full set: the least that meets it has one place -/
theorem fatal_one {p : Int} (hp : 1 ≤ p) : ∃ s, fatalF p [idx p] = some s ∧ s.length = 1 := by
  have hS : OkSet p [(0 : Int)] := ⟨by simp, by simp, fun x hx => by rw [List.mem_singleton.mp hx]; omega⟩
  have h1 : hits [idx p] [0] = true := hits_iff.mpr fun r hr => by
    rw [List.mem_singleton.mp hr]
    exact hit_iff.mpr ⟨0, idx_mem.mpr (by omega), by simp⟩
  have hm : [(0 : Int)] ∈ setsOf p := (mem_sets (by omega)).mpr hS.set
  cases e : fatalF p [idx p] with
  | none => exact absurd h1 (by simpa using List.find?_eq_none.mp e _ hm)
  | some s =>
    refine ⟨s, rfl, ?_⟩
    have g1 := List.find?_some e
    obtain ⟨pre, post, e2, e3⟩ := (List.find?_eq_some_iff_append.mp e).2
    have so := setsOf_srt p
    rw [e2] at so hm
    have hle : leK s [0] = true := by
      rcases List.mem_append.mp hm with h | h
      · have := e3 _ h
        rw [h1] at this
        cases this
      · rcases List.mem_cons.mp h with h | h
        · rw [h]
          exact (Bool.or_self _).symm.trans (leK_total s s)
        · exact (List.pairwise_cons.mp (List.pairwise_append.mp so).2.1).1 _ h
    have l1 := leK_len hle
    obtain ⟨x, _, hx⟩ := hit_iff.mp (hits_iff.mp g1 (idx p) (by simp))
    have := List.length_pos_of_mem hx
    simp at l1
    omega
end K75

set_option maxHeartbeats 4000000
namespace K75
open PySem PySem.Spec PyProof.Rows L2 Ab
theorem fl_rep (n : Nat) (d : PyData) : (List.replicate n [d]).flatten = List.replicate n d := by
  induction n with
  | zero => rfl
  | succ n ih => rw [List.replicate_succ, List.flatten_cons, ih, List.replicate_succ]; rfl
theorem set_ints (h : List Int) (k : Nat) (v : Int) : (h.map PyData.int).set k (.int v) = (h.set k v).map PyData.int := by rw [List.map_set]
theorem sMax_nonneg {b : Bool} {ws : List Int} {k : AV → Prop} (h1 : ws ≠ []) (h : ∀ x ∈ ws, 0 ≤ x) (hk : k (.dat (.int (ws.foldl max 0)))) : sBest PySem.W.maxD b (ws.map PyData.int) k := by
  cases ws with
  | nil => exact absurd rfl h1
  | cons x xs => exact sMax_ints (by rw [max_cons (h x List.mem_cons_self)]; exact hk)
theorem loads_ne {p : Int} {w : List (List Int)} {cs : List Int} (h : 1 ≤ p) : loadsF p w cs ≠ [] := by
  intro e
  have := congrArg List.length e
  unfold loadsF at this
  rw [List.length_map, List.length_range, List.length_nil] at this
  omega
theorem loads_nn {p : Int} {w : List (List Int)} {cs : List Int} (h : ∀ x ∈ cs, 0 ≤ x) : ∀ x ∈ loadsF p w cs, 0 ≤ x := fun x hx => by
  unfold loadsF at hx
  obtain ⟨q, _, rfl⟩ := List.mem_map.mp hx
  exact sum_nn fun y hy => by
    obtain ⟨k, _, rfl⟩ := List.mem_map.mp hy
    exact getD_nn h k
section
variable {P : Program} {w : World} {K : PySem.W.Frag} {mg : Str → Option Value} {base : Heap}
theorem ok_play (D : Defs K mg) : FnOk P w K mg base CX0 1 D.f_play D.fd_play ["places", "run"] (toSp K sp_play) := by
  refine ok_def D.F_play sc_play (fun oo ds Kc h => ?_) (fun cdv A outer s H E hr =>
      (ss_cons (s_set (ps_set (i := 2) sc_play.nd rfl (.inr rfl) (e_rep (e_lst (x_cons e_int x_nil)) (e_name (pv 0)))))
      (ss_cons (s_set (ps_set (i := 3) sc_play.nd rfl (.inl rfl) e_int))
      (ss_cons (s_set (ps_set (i := 4) sc_play.nd rfl (.inl rfl) (e_lst x_nil)))
      (ss_cons (s_for PassesOwn.never rfl (i_seq (e_name (pv 1))) (g_tup (pg_tup (n := 2) rfl (gs_cons (g_name (pg_name (i := 5) sc_play.nd rfl (.inl rfl))) (gs_cons (g_name (pg_name (i := 6) sc_play.nd rfl (.inl rfl))) gs_nil)))) (ss_cons (s_if (t_not (t_truth (e_callB (cr_all rfl) dc_all (by rfl) D.b_all boot_all (e_lc (own := [("place", 7)]) rfl sc_play.nd (i_seq (e_name (pv 6))) (blkOk_by (by kernel_rfl)) (fun _ _ _ _ _ => (g_name (pg_name (i := 7) sc_play.nd rfl (by first | exact Or.inl rfl | exact Or.inr rfl)))) (fun _ _ _ _ _ => ts_nil) (fun _ _ _ _ _ => (e_chain op_le dr_b op_lt dr_b e_int (e_name (pv 7)) (e_name (pv 0)))))))) ss_never ss_nil)
      (ss_one (s_if (t_cmp (op_eqP hr.units) dr_eq (e_name (pv 5)) e_str (nomark _)) (ss_cons (s_aug (ps_aug (i := 3) sc_play.nd rfl (.inl rfl) e_int ip_add))
      (ss_one (s_for PassesOwn.never rfl (i_seq (e_name (pv 6))) (g_name (pg_name (i := 7) sc_play.nd rfl (.inl rfl))) (ss_one (let ix := (e_name (pv 7)); s_setIx (pv 2) ix (e_name (pv 3)) (pg_sub (pv 2) ix set_list)))))) (ss_one (s_app (pe_append (pv 4) (e_tup (x_cons (e_ifExp (t_truth (e_name (pv 6))) (e_callB (cr_maxD rfl hr.units) dc_best (by rfl) D.b_max boot_max (e_lc (own := [("place", 7)]) rfl sc_play.nd (i_seq (e_name (pv 6))) (blkOk_by (by kernel_rfl)) (fun _ _ _ _ _ => (g_name (pg_name (i := 7) sc_play.nd rfl (by first | exact Or.inl rfl | exact Or.inr rfl)))) (fun _ _ _ _ _ => ts_nil) (fun _ _ _ _ _ => (e_ix (e_name (pv 2)) (e_name (pv 7)))))) e_int) (x_cons (e_name (pv 3)) x_nil))))))))))
      (ss_one (s_ret (e_callTy call_tuple_of dc_tuple (by rfl) D.b_tuple boot_tuple (e_name (pv 4)))))))))) (fun oo ds Kc h => ?_)
  · obtain ⟨p, run, rfl, rfl, _⟩ := h
    rfl
  · obtain ⟨p, run, rfl, rfl, h1, h6, hl, hr, k⟩ := h
    simp only [fl_rep, aName_eq, nm_dat, nm_own, dd_dat, dd_own, bb_bool, arg_dat, arg_own, arg_ali, das_nil, das_dat, cont_list, cont_tup, cont_own, cont_ali, contS_own, ownL_own, ownO_own, stor_dat, stor_own, iD_int, ii_int, i1_int, sAddU_int, sAddU_tup, truS_none, truS_bool, truS_int, truS_list, truS_tup, truS_ali, srcOf_list, srcOf_tup, srcOf_ali, Ab.got_some, gZ_nil, gC_cons, gT_tup, onlyDat_dat, notAli_dat, notAli_own, getO_some, fin_none, fin_some, finO_own, callA_nil, callA_dat, callA_ali, argS_none, argS_some, rt_ad, nx_ad, isN_none, isN_tup, notN_none, notN_tup, aNx, aRet, aIf, aSet, aAug, aDrop, aNever, aC, aBin, aBinR, aUn, aTst, aChain, aNot, aAnd, aOr, aIfE, aAndV, aOrV, aNotV, aNil, aCons, aTup, aLst, aCall1, aCallD, aIx, aApp, aExt, aSetIx, aTru, sLen, sAny, sAll, sSum, sList, sTuple, fI, fC, fB, aSeqI, aRng1, aFor, aFrz, gN, aUnp, aLc, aYes, aCall, aRep, aRgT, turn, wipeA, br_true, br_false, List.map_nil, List.map_cons, List.nil_append, List.cons_append, List.replicate, List.getElem?_cons_zero, List.getElem?_cons_succ, List.set_cons_zero, List.set_cons_succ, List.length_cons, List.length_nil, sIn_int, sNotIn_int, sEq_int, sNe_int, sEq_bool, sNe_bool, sEq_str, aSeq]
    refine ⟨small_le (by decide), by omega, by omega, small_le (by omega), small_le (by decide), trivial, fun _ => trivial, ?_⟩
    refine for_inv (enc := eRun) (xs := run) (fun pre ρ => ∃ x5 x6 x7, NoOwn x7 ∧ ρ = [some (.dat (.int p)), some (.dat (.tuple (run.map eRun))), some (.own none (.lst ((pre.foldl stepP (st0 p)).1.map PyData.int))), some (.dat (.int (pre.foldl stepP (st0 p)).2.1)), some (.own none (.lst ((pre.foldl stepP (st0 p)).2.2.map eP))), x5, x6, x7]) ⟨none, none, none, trivial, by simp [st0]⟩ ?_ ?_
    · rintro pre ⟨b, row⟩ post e ρ ⟨x5, x6, x7, n7, rfl⟩ Kn kn
      have hq : OkSet p row := hr (b, row) (by rw [e]; simp)
      have hql := hq.len
      have hz : (pre.foldl stepP (st0 p)).2.2.length ≤ 1000 := by
        have g := (okP_all pre (okP0 p) fun q hq => (hr q (by rw [e]; exact List.mem_append_left _ hq)).rng).few
        have g2 := congrArg List.length e
        rw [List.length_append, List.length_cons] at g2
        omega
      have hP := okP_all pre (okP0 p) fun q hq => (hr q (by rw [e]; exact List.mem_append_left _ hq)).rng
      have kn : ∀ ρ', (∃ x5 x6 x7, NoOwn x7 ∧ ρ' = [some (.dat (.int p)), some (.dat (.tuple (run.map eRun))), some (.own none (.lst ((stepP (pre.foldl stepP (st0 p)) (b, row)).1.map PyData.int))), some (.dat (.int (stepP (pre.foldl stepP (st0 p)) (b, row)).2.1)), some (.own none (.lst ((stepP (pre.foldl stepP (st0 p)) (b, row)).2.2.map eP))), x5, x6, x7]) → Kn ρ' := fun ρ' hh => kn ρ' (by rw [List.foldl_append]; exact hh)
      generalize hst : pre.foldl stepP (st0 p) = st at kn hz hP ⊢
      obtain ⟨hv, last, found⟩ := st
      simp only [eRun, tI, aName_eq, nm_dat, nm_own, dd_dat, dd_own, bb_bool, arg_dat, arg_own, arg_ali, das_nil, das_dat, cont_list, cont_tup, cont_own, cont_ali, contS_own, ownL_own, ownO_own, stor_dat, stor_own, iD_int, ii_int, i1_int, sAddU_int, sAddU_tup, truS_none, truS_bool, truS_int, truS_list, truS_tup, truS_ali, srcOf_list, srcOf_tup, srcOf_ali, Ab.got_some, gZ_nil, gC_cons, gT_tup, onlyDat_dat, notAli_dat, notAli_own, getO_some, fin_none, fin_some, finO_own, callA_nil, callA_dat, callA_ali, argS_none, argS_some, rt_ad, nx_ad, isN_none, isN_tup, notN_none, notN_tup, aNx, aRet, aIf, aSet, aAug, aDrop, aNever, aC, aBin, aBinR, aUn, aTst, aChain, aNot, aAnd, aOr, aIfE, aAndV, aOrV, aNotV, aNil, aCons, aTup, aLst, aCall1, aCallD, aIx, aApp, aExt, aSetIx, aTru, sLen, sAny, sAll, sSum, sList, sTuple, fI, fC, fB, aSeqI, aRng1, aFor, aFrz, gN, aUnp, aLc, aYes, aCall, aRep, aRgT, turn, wipeA, br_true, br_false, List.map_nil, List.map_cons, List.nil_append, List.cons_append, List.replicate, List.getElem?_cons_zero, List.getElem?_cons_succ, List.set_cons_zero, List.set_cons_succ, List.length_cons, List.length_nil, sIn_int, sNotIn_int, sEq_int, sNe_int, sEq_bool, sNe_bool, sEq_str, aSeq]
      refine ⟨trivial, ?_⟩
      refine lc_map (enc := PyData.int) (fun x => .bool true) trivial ⟨n7, by simp, trivial⟩ (small_len (by omega)) (fun x hx Ka Ks ka => ?_) ?_
      · obtain ⟨g1, g2⟩ := hq.rng x hx
        simp only [g1, g2, decide_true, aName_eq, nm_dat, nm_own, dd_dat, dd_own, bb_bool, arg_dat, arg_own, arg_ali, das_nil, das_dat, cont_list, cont_tup, cont_own, cont_ali, contS_own, ownL_own, ownO_own, stor_dat, stor_own, iD_int, ii_int, i1_int, sAddU_int, sAddU_tup, truS_none, truS_bool, truS_int, truS_list, truS_tup, truS_ali, srcOf_list, srcOf_tup, srcOf_ali, Ab.got_some, gZ_nil, gC_cons, gT_tup, onlyDat_dat, notAli_dat, notAli_own, getO_some, fin_none, fin_some, finO_own, callA_nil, callA_dat, callA_ali, argS_none, argS_some, rt_ad, nx_ad, isN_none, isN_tup, notN_none, notN_tup, aNx, aRet, aIf, aSet, aAug, aDrop, aNever, aC, aBin, aBinR, aUn, aTst, aChain, aNot, aAnd, aOr, aIfE, aAndV, aOrV, aNotV, aNil, aCons, aTup, aLst, aCall1, aCallD, aIx, aApp, aExt, aSetIx, aTru, sLen, sAny, sAll, sSum, sList, sTuple, fI, fC, fB, aSeqI, aRng1, aFor, aFrz, gN, aUnp, aLc, aYes, aCall, aRep, aRgT, turn, wipeA, br_true, br_false, List.map_nil, List.map_cons, List.nil_append, List.cons_append, List.replicate, List.getElem?_cons_zero, List.getElem?_cons_succ, List.set_cons_zero, List.set_cons_succ, List.length_cons, List.length_nil, sIn_int, sNotIn_int, sEq_int, sNe_int, sEq_bool, sNe_bool, sEq_str, aSeq]
        exact ka
      · rw [show (row.map fun _ => PyData.bool true) = row.map fun x => PyData.bool ((fun _ => true) x) from rfl, bools_map]
        have e7 : (row.map fun _ : Int => true).all id = true := by simp
        simp only [e7, Bool.not_true, aName_eq, nm_dat, nm_own, dd_dat, dd_own, bb_bool, arg_dat, arg_own, arg_ali, das_nil, das_dat, cont_list, cont_tup, cont_own, cont_ali, contS_own, ownL_own, ownO_own, stor_dat, stor_own, iD_int, ii_int, i1_int, sAddU_int, sAddU_tup, truS_none, truS_bool, truS_int, truS_list, truS_tup, truS_ali, srcOf_list, srcOf_tup, srcOf_ali, Ab.got_some, gZ_nil, gC_cons, gT_tup, onlyDat_dat, notAli_dat, notAli_own, getO_some, fin_none, fin_some, finO_own, callA_nil, callA_dat, callA_ali, argS_none, argS_some, rt_ad, nx_ad, isN_none, isN_tup, notN_none, notN_tup, aNx, aRet, aIf, aSet, aAug, aDrop, aNever, aC, aBin, aBinR, aUn, aTst, aChain, aNot, aAnd, aOr, aIfE, aAndV, aOrV, aNotV, aNil, aCons, aTup, aLst, aCall1, aCallD, aIx, aApp, aExt, aSetIx, aTru, sLen, sAny, sAll, sSum, sList, sTuple, fI, fC, fB, aSeqI, aRng1, aFor, aFrz, gN, aUnp, aLc, aYes, aCall, aRep, aRgT, turn, wipeA, br_true, br_false, List.map_nil, List.map_cons, List.nil_append, List.cons_append, List.replicate, List.getElem?_cons_zero, List.getElem?_cons_succ, List.set_cons_zero, List.set_cons_succ, List.length_cons, List.length_nil, sIn_int, sNotIn_int, sEq_int, sNe_int, sEq_bool, sNe_bool, sEq_str, aSeq]
        refine ⟨trivial, ?_⟩
        cases b with
        | true =>
          simp only [if_true, decide_true, aName_eq, nm_dat, nm_own, dd_dat, dd_own, bb_bool, arg_dat, arg_own, arg_ali, das_nil, das_dat, cont_list, cont_tup, cont_own, cont_ali, contS_own, ownL_own, ownO_own, stor_dat, stor_own, iD_int, ii_int, i1_int, sAddU_int, sAddU_tup, truS_none, truS_bool, truS_int, truS_list, truS_tup, truS_ali, srcOf_list, srcOf_tup, srcOf_ali, Ab.got_some, gZ_nil, gC_cons, gT_tup, onlyDat_dat, notAli_dat, notAli_own, getO_some, fin_none, fin_some, finO_own, callA_nil, callA_dat, callA_ali, argS_none, argS_some, rt_ad, nx_ad, isN_none, isN_tup, notN_none, notN_tup, aNx, aRet, aIf, aSet, aAug, aDrop, aNever, aC, aBin, aBinR, aUn, aTst, aChain, aNot, aAnd, aOr, aIfE, aAndV, aOrV, aNotV, aNil, aCons, aTup, aLst, aCall1, aCallD, aIx, aApp, aExt, aSetIx, aTru, sLen, sAny, sAll, sSum, sList, sTuple, fI, fC, fB, aSeqI, aRng1, aFor, aFrz, gN, aUnp, aLc, aYes, aCall, aRep, aRgT, turn, wipeA, br_true, br_false, List.map_nil, List.map_cons, List.nil_append, List.cons_append, List.replicate, List.getElem?_cons_zero, List.getElem?_cons_succ, List.set_cons_zero, List.set_cons_succ, List.length_cons, List.length_nil, sIn_int, sNotIn_int, sEq_int, sNe_int, sEq_bool, sNe_bool, sEq_str, aSeq]
          refine ⟨trivial, fun _ => trivial, ?_⟩
          refine for_inv (enc := PyData.int) (xs := row) (fun pre3 ρ => ∃ x7, NoOwn x7 ∧ ρ = [some (.dat (.int p)), some (.dat (.tuple (run.map eRun))), some (.own none (.lst ((setAll (last + 1) hv pre3).map PyData.int))), some (.dat (.int (last + 1))), some (.own none (.lst (found.map eP))), some (.dat (sv "w")), some (.dat (tI row)), x7]) ⟨x7, n7, rfl⟩ ?_ ?_
          · rintro pre3 x post3 e3 ρ ⟨y7, m7, rfl⟩ Kn3 kn3
            obtain ⟨g1, g2⟩ := hq.rng x (by rw [e3]; simp)
            have hlen : (setAll (last + 1) hv pre3).length = p.toNat := by
              rw [setAll_len]
              exact hP.len
            have ex : x = ((x.toNat : Nat) : Int) := by omega
            have ej : ixN (setAll (last + 1) hv pre3).length x = some x.toNat := by
              unfold ixN
              rw [if_pos g1, if_pos (by omega)]
            simp only [List.length_map, ej, set_ints, aName_eq, nm_dat, nm_own, dd_dat, dd_own, bb_bool, arg_dat, arg_own, arg_ali, das_nil, das_dat, cont_list, cont_tup, cont_own, cont_ali, contS_own, ownL_own, ownO_own, stor_dat, stor_own, iD_int, ii_int, i1_int, sAddU_int, sAddU_tup, truS_none, truS_bool, truS_int, truS_list, truS_tup, truS_ali, srcOf_list, srcOf_tup, srcOf_ali, Ab.got_some, gZ_nil, gC_cons, gT_tup, onlyDat_dat, notAli_dat, notAli_own, getO_some, fin_none, fin_some, finO_own, callA_nil, callA_dat, callA_ali, argS_none, argS_some, rt_ad, nx_ad, isN_none, isN_tup, notN_none, notN_tup, aNx, aRet, aIf, aSet, aAug, aDrop, aNever, aC, aBin, aBinR, aUn, aTst, aChain, aNot, aAnd, aOr, aIfE, aAndV, aOrV, aNotV, aNil, aCons, aTup, aLst, aCall1, aCallD, aIx, aApp, aExt, aSetIx, aTru, sLen, sAny, sAll, sSum, sList, sTuple, fI, fC, fB, aSeqI, aRng1, aFor, aFrz, gN, aUnp, aLc, aYes, aCall, aRep, aRgT, turn, wipeA, br_true, br_false, List.map_nil, List.map_cons, List.nil_append, List.cons_append, List.replicate, List.getElem?_cons_zero, List.getElem?_cons_succ, List.set_cons_zero, List.set_cons_succ, List.length_cons, List.length_nil, sIn_int, sNotIn_int, sEq_int, sNe_int, sEq_bool, sNe_bool, sEq_str, aSeq]
            refine kn3 _ ⟨_, ?_, by rw [setAll_snoc]⟩
            exact trivial
          · rintro ρ ⟨y7, m7, rfl⟩
            exact kn _ ⟨_, _, _, m7, rfl⟩
        | false =>
          have hne : (!row.isEmpty) = true := by
            cases row with
            | nil => exact absurd rfl hq.ne
            | cons _ _ => rfl
          have hs : decide (Str.ofString "r" = Str.ofString "w") = false := by decide
          simp only [Bool.false_eq_true, if_false, hs, emp_map, hne, aName_eq, nm_dat, nm_own, dd_dat, dd_own, bb_bool, arg_dat, arg_own, arg_ali, das_nil, das_dat, cont_list, cont_tup, cont_own, cont_ali, contS_own, ownL_own, ownO_own, stor_dat, stor_own, iD_int, ii_int, i1_int, sAddU_int, sAddU_tup, truS_none, truS_bool, truS_int, truS_list, truS_tup, truS_ali, srcOf_list, srcOf_tup, srcOf_ali, Ab.got_some, gZ_nil, gC_cons, gT_tup, onlyDat_dat, notAli_dat, notAli_own, getO_some, fin_none, fin_some, finO_own, callA_nil, callA_dat, callA_ali, argS_none, argS_some, rt_ad, nx_ad, isN_none, isN_tup, notN_none, notN_tup, aNx, aRet, aIf, aSet, aAug, aDrop, aNever, aC, aBin, aBinR, aUn, aTst, aChain, aNot, aAnd, aOr, aIfE, aAndV, aOrV, aNotV, aNil, aCons, aTup, aLst, aCall1, aCallD, aIx, aApp, aExt, aSetIx, aTru, sLen, sAny, sAll, sSum, sList, sTuple, fI, fC, fB, aSeqI, aRng1, aFor, aFrz, gN, aUnp, aLc, aYes, aCall, aRep, aRgT, turn, wipeA, br_true, br_false, List.map_nil, List.map_cons, List.nil_append, List.cons_append, List.replicate, List.getElem?_cons_zero, List.getElem?_cons_succ, List.set_cons_zero, List.set_cons_succ, List.length_cons, List.length_nil, sIn_int, sNotIn_int, sEq_int, sNe_int, sEq_bool, sNe_bool, sEq_str, aSeq]
          refine lc_map (enc := PyData.int) (fun x => .int (hv.getD x.toNat 0)) trivial ⟨n7, by simp, trivial⟩ (small_len (by omega)) (fun x hx Ka Ks ka => ?_) ?_
          · obtain ⟨g1, g2⟩ := hq.rng x hx
            have hlen : hv.length = p.toNat := hP.len
            simp only [aName_eq, nm_dat, nm_own, dd_dat, dd_own, bb_bool, arg_dat, arg_own, arg_ali, das_nil, das_dat, cont_list, cont_tup, cont_own, cont_ali, contS_own, ownL_own, ownO_own, stor_dat, stor_own, iD_int, ii_int, i1_int, sAddU_int, sAddU_tup, truS_none, truS_bool, truS_int, truS_list, truS_tup, truS_ali, srcOf_list, srcOf_tup, srcOf_ali, Ab.got_some, gZ_nil, gC_cons, gT_tup, onlyDat_dat, notAli_dat, notAli_own, getO_some, fin_none, fin_some, finO_own, callA_nil, callA_dat, callA_ali, argS_none, argS_some, rt_ad, nx_ad, isN_none, isN_tup, notN_none, notN_tup, aNx, aRet, aIf, aSet, aAug, aDrop, aNever, aC, aBin, aBinR, aUn, aTst, aChain, aNot, aAnd, aOr, aIfE, aAndV, aOrV, aNotV, aNil, aCons, aTup, aLst, aCall1, aCallD, aIx, aApp, aExt, aSetIx, aTru, sLen, sAny, sAll, sSum, sList, sTuple, fI, fC, fB, aSeqI, aRng1, aFor, aFrz, gN, aUnp, aLc, aYes, aCall, aRep, aRgT, turn, wipeA, br_true, br_false, List.map_nil, List.map_cons, List.nil_append, List.cons_append, List.replicate, List.getElem?_cons_zero, List.getElem?_cons_succ, List.set_cons_zero, List.set_cons_succ, List.length_cons, List.length_nil, sIn_int, sNotIn_int, sEq_int, sNe_int, sEq_bool, sNe_bool, sEq_str, aSeq]
            rw [atI_nn g1 (by omega)]
            exact ka
          · rw [show (row.map fun x => PyData.int (hv.getD x.toNat 0)) = (row.map fun x => hv.getD x.toNat 0).map PyData.int by rw [List.map_map]; rfl]
            refine sMax_nonneg (by simpa using hq.ne) (fun y hy => ?_) ?_
            · obtain ⟨x, hx, rfl⟩ := List.mem_map.mp hy
              obtain ⟨g1, g2⟩ := hq.rng x hx
              have hlen : hv.length = p.toNat := hP.len
              exact (hP.nn _ (getD_mem (by rw [hP.len]; omega))).1
            · simp only [List.length_map, aName_eq, nm_dat, nm_own, dd_dat, dd_own, bb_bool, arg_dat, arg_own, arg_ali, das_nil, das_dat, cont_list, cont_tup, cont_own, cont_ali, contS_own, ownL_own, ownO_own, stor_dat, stor_own, iD_int, ii_int, i1_int, sAddU_int, sAddU_tup, truS_none, truS_bool, truS_int, truS_list, truS_tup, truS_ali, srcOf_list, srcOf_tup, srcOf_ali, Ab.got_some, gZ_nil, gC_cons, gT_tup, onlyDat_dat, notAli_dat, notAli_own, getO_some, fin_none, fin_some, finO_own, callA_nil, callA_dat, callA_ali, argS_none, argS_some, rt_ad, nx_ad, isN_none, isN_tup, notN_none, notN_tup, aNx, aRet, aIf, aSet, aAug, aDrop, aNever, aC, aBin, aBinR, aUn, aTst, aChain, aNot, aAnd, aOr, aIfE, aAndV, aOrV, aNotV, aNil, aCons, aTup, aLst, aCall1, aCallD, aIx, aApp, aExt, aSetIx, aTru, sLen, sAny, sAll, sSum, sList, sTuple, fI, fC, fB, aSeqI, aRng1, aFor, aFrz, gN, aUnp, aLc, aYes, aCall, aRep, aRgT, turn, wipeA, br_true, br_false, List.map_nil, List.map_cons, List.nil_append, List.cons_append, List.replicate, List.getElem?_cons_zero, List.getElem?_cons_succ, List.set_cons_zero, List.set_cons_succ, List.length_cons, List.length_nil, sIn_int, sNotIn_int, sEq_int, sNe_int, sEq_bool, sNe_bool, sEq_str, aSeq]
              have hz : found.length ≤ 1000 := hz
              refine ⟨small_le (by decide), small_len (by omega), ?_⟩
              refine kn _ ⟨some (.dat (sv "r")), some (.dat (tI row)), x7, n7, ?_⟩
              simp [stepP, eP, tI]
    · rintro ρ ⟨x5, x6, x7, n7, rfl⟩
      simp only [aName_eq, nm_dat, nm_own, dd_dat, dd_own, bb_bool, arg_dat, arg_own, arg_ali, das_nil, das_dat, cont_list, cont_tup, cont_own, cont_ali, contS_own, ownL_own, ownO_own, stor_dat, stor_own, iD_int, ii_int, i1_int, sAddU_int, sAddU_tup, truS_none, truS_bool, truS_int, truS_list, truS_tup, truS_ali, srcOf_list, srcOf_tup, srcOf_ali, Ab.got_some, gZ_nil, gC_cons, gT_tup, onlyDat_dat, notAli_dat, notAli_own, getO_some, fin_none, fin_some, finO_own, callA_nil, callA_dat, callA_ali, argS_none, argS_some, rt_ad, nx_ad, isN_none, isN_tup, notN_none, notN_tup, aNx, aRet, aIf, aSet, aAug, aDrop, aNever, aC, aBin, aBinR, aUn, aTst, aChain, aNot, aAnd, aOr, aIfE, aAndV, aOrV, aNotV, aNil, aCons, aTup, aLst, aCall1, aCallD, aIx, aApp, aExt, aSetIx, aTru, sLen, sAny, sAll, sSum, sList, sTuple, fI, fC, fB, aSeqI, aRng1, aFor, aFrz, gN, aUnp, aLc, aYes, aCall, aRep, aRgT, turn, wipeA, br_true, br_false, List.map_nil, List.map_cons, List.nil_append, List.cons_append, List.replicate, List.getElem?_cons_zero, List.getElem?_cons_succ, List.set_cons_zero, List.set_cons_succ, List.length_cons, List.length_nil, sIn_int, sNotIn_int, sEq_int, sNe_int, sEq_bool, sNe_bool, sEq_str, aSeq]
      exact k
theorem ok_busiest (D : Defs K mg) : FnOk P w K mg base CX0 2 D.f_busiest D.fd_busiest ["places", "rows", "counts"] (toSp K sp_busiest) := by
  have G_check_quorums : FnOk P w K mg base CX0 1 D.f_check_quorums D.fd_check_quorums ["places", "writes", "reads"] (toSp K sp_check_quorums) := ok_check_quorums D
  refine ok_def D.F_busiest sc_busiest (fun oo ds Kc h => ?_) (fun cdv A outer s H E hr =>
      (ss_cons (s_expr (e_call G_check_quorums (hr.mono (by decide)) (by rfl) D.g_check_quorums D.F_check_quorums.kp D.n_check_quorums (x_cons (e_name (pv 0)) (x_cons (e_name (pv 1)) (x_cons (e_name (pv 1)) x_nil)))))
      (ss_cons (s_if (t_w (w_orC (t_cmp (op_neP hr.units) dr_ne (e_callB call_len_seq dc_len (by rfl) D.b_len PySem.boot_len (e_name (pv 2))) (e_callB call_len_seq dc_len (by rfl) D.b_len PySem.boot_len (e_name (pv 1))) (nomark _)) (w_or1 (t_cmp op_lt dr_b (e_callB (cr_minD rfl hr.units) dc_best (by rfl) D.b_min boot_min (e_name (pv 2))) e_int (nomark _))))) ss_never ss_nil)
      (ss_cons (s_setLc (i := 3) (own := [("place", 5)]) rfl sc_busiest.nd rfl rfl (sw_true rfl rfl rfl (by decide +kernel)) (i_rng1 (by rfl) D.b_range (e_name (pv 0))) (blkOk_by (by kernel_rfl)) (fun _ _ _ _ _ => (g_name (pg_name (i := 5) sc_busiest.nd rfl (by first | exact Or.inl rfl | exact Or.inr rfl)))) (fun _ _ _ _ _ => ts_nil) (fun _ _ _ _ _ => (e_callB (cr_sum2 rfl) dc_sum (by rfl) D.b_sum boot_sum (e_lc (own := [("k", 4)]) rfl sc_busiest.nd (i_rng1 (by rfl) D.b_range (e_callB call_len_seq dc_len (by rfl) D.b_len PySem.boot_len (e_name (pv 1)))) (blkOk_by (by kernel_rfl)) (fun _ _ _ _ _ => (g_name (pg_name (i := 4) sc_busiest.nd rfl (by first | exact Or.inl rfl | exact Or.inr rfl)))) (fun _ _ _ _ _ => (ts_one (t_cmpS (op_inP hr.units) dr_in (e_name (pv 5)) (e_ix (e_name (pv 1)) (e_name (pv 4)))))) (fun _ _ _ _ _ => (e_ix (e_name (pv 2)) (e_name (pv 4))))))))
      (ss_one (s_ret (e_tup (x_cons (e_callTy call_tuple_of dc_tuple (by rfl) D.b_tuple boot_tuple (e_name (pv 3))) (x_cons (e_callB (cr_maxD rfl hr.units) dc_best (by rfl) D.b_max boot_max (e_name (pv 3))) x_nil))))))))) (fun oo ds Kc h => ?_)
  · obtain ⟨p, w, cs, rfl, rfl, _⟩ := h
    rfl
  · obtain ⟨p, w, cs, rfl, rfl, hw, hc, h0, k⟩ := h
    simp only [aName_eq, nm_dat, nm_own, dd_dat, dd_own, bb_bool, arg_dat, arg_own, arg_ali, das_nil, das_dat, cont_list, cont_tup, cont_own, cont_ali, contS_own, ownL_own, ownO_own, stor_dat, stor_own, iD_int, ii_int, i1_int, sAddU_int, sAddU_tup, truS_none, truS_bool, truS_int, truS_list, truS_tup, truS_ali, srcOf_list, srcOf_tup, srcOf_ali, Ab.got_some, gZ_nil, gC_cons, gT_tup, onlyDat_dat, notAli_dat, notAli_own, getO_some, fin_none, fin_some, finO_own, callA_nil, callA_dat, callA_ali, argS_none, argS_some, rt_ad, nx_ad, isN_none, isN_tup, notN_none, notN_tup, aNx, aRet, aIf, aSet, aAug, aDrop, aNever, aC, aBin, aBinR, aUn, aTst, aChain, aNot, aAnd, aOr, aIfE, aAndV, aOrV, aNotV, aNil, aCons, aTup, aLst, aCall1, aCallD, aIx, aApp, aExt, aSetIx, aTru, sLen, sAny, sAll, sSum, sList, sTuple, fI, fC, fB, aSeqI, aRng1, aFor, aFrz, gN, aUnp, aLc, aYes, aCall, aRep, aRgT, turn, wipeA, br_true, br_false, List.map_nil, List.map_cons, List.nil_append, List.cons_append, List.replicate, List.getElem?_cons_zero, List.getElem?_cons_succ, List.set_cons_zero, List.set_cons_succ, List.length_cons, List.length_nil, sIn_int, sNotIn_int, sEq_int, sNe_int, sEq_bool, sNe_bool, sEq_str, aSeq]
    refine ⟨p, w, w, rfl, rfl, hw, hw, rfl, ?_⟩
    have h1 := hw.lo
    have h6 := hw.hi
    have hne : cs ≠ [] := by
      intro z
      have := hw.one
      rw [z] at hc
      simp at hc
      omega
    have ed : decide ((cs.length : Int) = (w.length : Int)) = true := by rw [hc]; simp
    simp only [List.length_map, ed, Bool.not_true, aName_eq, nm_dat, nm_own, dd_dat, dd_own, bb_bool, arg_dat, arg_own, arg_ali, das_nil, das_dat, cont_list, cont_tup, cont_own, cont_ali, contS_own, ownL_own, ownO_own, stor_dat, stor_own, iD_int, ii_int, i1_int, sAddU_int, sAddU_tup, truS_none, truS_bool, truS_int, truS_list, truS_tup, truS_ali, srcOf_list, srcOf_tup, srcOf_ali, Ab.got_some, gZ_nil, gC_cons, gT_tup, onlyDat_dat, notAli_dat, notAli_own, getO_some, fin_none, fin_some, finO_own, callA_nil, callA_dat, callA_ali, argS_none, argS_some, rt_ad, nx_ad, isN_none, isN_tup, notN_none, notN_tup, aNx, aRet, aIf, aSet, aAug, aDrop, aNever, aC, aBin, aBinR, aUn, aTst, aChain, aNot, aAnd, aOr, aIfE, aAndV, aOrV, aNotV, aNil, aCons, aTup, aLst, aCall1, aCallD, aIx, aApp, aExt, aSetIx, aTru, sLen, sAny, sAll, sSum, sList, sTuple, fI, fC, fB, aSeqI, aRng1, aFor, aFrz, gN, aUnp, aLc, aYes, aCall, aRep, aRgT, turn, wipeA, br_true, br_false, List.map_nil, List.map_cons, List.nil_append, List.cons_append, List.replicate, List.getElem?_cons_zero, List.getElem?_cons_succ, List.set_cons_zero, List.set_cons_succ, List.length_cons, List.length_nil, sIn_int, sNotIn_int, sEq_int, sNe_int, sEq_bool, sNe_bool, sEq_str, aSeq]
    refine sMin_nonneg hne h0 fun m hm => ?_
    have hm2 : decide (m < 0) = false := decide_eq_false (by omega)
    simp only [hm2, aName_eq, nm_dat, nm_own, dd_dat, dd_own, bb_bool, arg_dat, arg_own, arg_ali, das_nil, das_dat, cont_list, cont_tup, cont_own, cont_ali, contS_own, ownL_own, ownO_own, stor_dat, stor_own, iD_int, ii_int, i1_int, sAddU_int, sAddU_tup, truS_none, truS_bool, truS_int, truS_list, truS_tup, truS_ali, srcOf_list, srcOf_tup, srcOf_ali, Ab.got_some, gZ_nil, gC_cons, gT_tup, onlyDat_dat, notAli_dat, notAli_own, getO_some, fin_none, fin_some, finO_own, callA_nil, callA_dat, callA_ali, argS_none, argS_some, rt_ad, nx_ad, isN_none, isN_tup, notN_none, notN_tup, aNx, aRet, aIf, aSet, aAug, aDrop, aNever, aC, aBin, aBinR, aUn, aTst, aChain, aNot, aAnd, aOr, aIfE, aAndV, aOrV, aNotV, aNil, aCons, aTup, aLst, aCall1, aCallD, aIx, aApp, aExt, aSetIx, aTru, sLen, sAny, sAll, sSum, sList, sTuple, fI, fC, fB, aSeqI, aRng1, aFor, aFrz, gN, aUnp, aLc, aYes, aCall, aRep, aRgT, turn, wipeA, br_true, br_false, List.map_nil, List.map_cons, List.nil_append, List.cons_append, List.replicate, List.getElem?_cons_zero, List.getElem?_cons_succ, List.set_cons_zero, List.set_cons_succ, List.length_cons, List.length_nil, sIn_int, sNotIn_int, sEq_int, sNe_int, sEq_bool, sNe_bool, sEq_str, aSeq]
    refine ⟨by omega, by omega, ?_⟩
    rw [rangeD0]
    refine lc_map (enc := fun (q : Nat) => PyData.int (q : Int)) (fun (q : Nat) => .int (((List.range w.length).filter fun k => decide ((q : Int) ∈ w.getD k [])).map fun k => cs.getD k 0).sum) trivial (by simp [Ab.freeOf]) (small_len (by simp; omega)) (fun q hq Ka Ks ka => ?_) ?_
    · have hf := hw.few
      simp only [eR, List.length_map, aName_eq, nm_dat, nm_own, dd_dat, dd_own, bb_bool, arg_dat, arg_own, arg_ali, das_nil, das_dat, cont_list, cont_tup, cont_own, cont_ali, contS_own, ownL_own, ownO_own, stor_dat, stor_own, iD_int, ii_int, i1_int, sAddU_int, sAddU_tup, truS_none, truS_bool, truS_int, truS_list, truS_tup, truS_ali, srcOf_list, srcOf_tup, srcOf_ali, Ab.got_some, gZ_nil, gC_cons, gT_tup, onlyDat_dat, notAli_dat, notAli_own, getO_some, fin_none, fin_some, finO_own, callA_nil, callA_dat, callA_ali, argS_none, argS_some, rt_ad, nx_ad, isN_none, isN_tup, notN_none, notN_tup, aNx, aRet, aIf, aSet, aAug, aDrop, aNever, aC, aBin, aBinR, aUn, aTst, aChain, aNot, aAnd, aOr, aIfE, aAndV, aOrV, aNotV, aNil, aCons, aTup, aLst, aCall1, aCallD, aIx, aApp, aExt, aSetIx, aTru, sLen, sAny, sAll, sSum, sList, sTuple, fI, fC, fB, aSeqI, aRng1, aFor, aFrz, gN, aUnp, aLc, aYes, aCall, aRep, aRgT, turn, wipeA, br_true, br_false, List.map_nil, List.map_cons, List.nil_append, List.cons_append, List.replicate, List.getElem?_cons_zero, List.getElem?_cons_succ, List.set_cons_zero, List.set_cons_succ, List.length_cons, List.length_nil, sIn_int, sNotIn_int, sEq_int, sNe_int, sEq_bool, sNe_bool, sEq_str, aSeq]
      refine ⟨by omega, by omega, ?_⟩
      rw [rangeD0]
      refine lc_pure (enc := fun (q : Nat) => PyData.int (q : Int)) (fun k => decide ((q : Int) ∈ w.getD k [])) (fun k => .int (cs.getD k 0)) trivial (by simp [Ab.freeOf]) (small_len (by simp; omega)) (fun k hk Kb Ks2 kb ks => ?_) ?_
      · have hk : k < w.length := by
          have := List.mem_range.mp hk
          omega
        have e3 : w.getD k [] = w[k] := by rw [List.getD_eq_getElem?_getD, List.getElem?_eq_getElem hk]; rfl
        rw [e3] at kb ks
        simp only [aName_eq, nm_dat, nm_own, dd_dat, dd_own, bb_bool, arg_dat, arg_own, arg_ali, das_nil, das_dat, cont_list, cont_tup, cont_own, cont_ali, contS_own, ownL_own, ownO_own, stor_dat, stor_own, iD_int, ii_int, i1_int, sAddU_int, sAddU_tup, truS_none, truS_bool, truS_int, truS_list, truS_tup, truS_ali, srcOf_list, srcOf_tup, srcOf_ali, Ab.got_some, gZ_nil, gC_cons, gT_tup, onlyDat_dat, notAli_dat, notAli_own, getO_some, fin_none, fin_some, finO_own, callA_nil, callA_dat, callA_ali, argS_none, argS_some, rt_ad, nx_ad, isN_none, isN_tup, notN_none, notN_tup, aNx, aRet, aIf, aSet, aAug, aDrop, aNever, aC, aBin, aBinR, aUn, aTst, aChain, aNot, aAnd, aOr, aIfE, aAndV, aOrV, aNotV, aNil, aCons, aTup, aLst, aCall1, aCallD, aIx, aApp, aExt, aSetIx, aTru, sLen, sAny, sAll, sSum, sList, sTuple, fI, fC, fB, aSeqI, aRng1, aFor, aFrz, gN, aUnp, aLc, aYes, aCall, aRep, aRgT, turn, wipeA, br_true, br_false, List.map_nil, List.map_cons, List.nil_append, List.cons_append, List.replicate, List.getElem?_cons_zero, List.getElem?_cons_succ, List.set_cons_zero, List.set_cons_succ, List.length_cons, List.length_nil, sIn_int, sNotIn_int, sEq_int, sNe_int, sEq_bool, sNe_bool, sEq_str, aSeq]
        rw [atI_map tI hk]
        simp only [tI, aName_eq, nm_dat, nm_own, dd_dat, dd_own, bb_bool, arg_dat, arg_own, arg_ali, das_nil, das_dat, cont_list, cont_tup, cont_own, cont_ali, contS_own, ownL_own, ownO_own, stor_dat, stor_own, iD_int, ii_int, i1_int, sAddU_int, sAddU_tup, truS_none, truS_bool, truS_int, truS_list, truS_tup, truS_ali, srcOf_list, srcOf_tup, srcOf_ali, Ab.got_some, gZ_nil, gC_cons, gT_tup, onlyDat_dat, notAli_dat, notAli_own, getO_some, fin_none, fin_some, finO_own, callA_nil, callA_dat, callA_ali, argS_none, argS_some, rt_ad, nx_ad, isN_none, isN_tup, notN_none, notN_tup, aNx, aRet, aIf, aSet, aAug, aDrop, aNever, aC, aBin, aBinR, aUn, aTst, aChain, aNot, aAnd, aOr, aIfE, aAndV, aOrV, aNotV, aNil, aCons, aTup, aLst, aCall1, aCallD, aIx, aApp, aExt, aSetIx, aTru, sLen, sAny, sAll, sSum, sList, sTuple, fI, fC, fB, aSeqI, aRng1, aFor, aFrz, gN, aUnp, aLc, aYes, aCall, aRep, aRgT, turn, wipeA, br_true, br_false, List.map_nil, List.map_cons, List.nil_append, List.cons_append, List.replicate, List.getElem?_cons_zero, List.getElem?_cons_succ, List.set_cons_zero, List.set_cons_succ, List.length_cons, List.length_nil, sIn_int, sNotIn_int, sEq_int, sNe_int, sEq_bool, sNe_bool, sEq_str, aSeq]
        rw [atI_ints (by omega)]
        exact ⟨kb, ks⟩
      · simp only [Int.toNat_natCast]
        rw [show ∀ l : List Nat, (l.map fun k => PyData.int (cs.getD k 0)) = (l.map fun k => cs.getD k 0).map PyData.int from fun l => by rw [List.map_map]; rfl]
        simp only [intsD_map, aName_eq, nm_dat, nm_own, dd_dat, dd_own, bb_bool, arg_dat, arg_own, arg_ali, das_nil, das_dat, cont_list, cont_tup, cont_own, cont_ali, contS_own, ownL_own, ownO_own, stor_dat, stor_own, iD_int, ii_int, i1_int, sAddU_int, sAddU_tup, truS_none, truS_bool, truS_int, truS_list, truS_tup, truS_ali, srcOf_list, srcOf_tup, srcOf_ali, Ab.got_some, gZ_nil, gC_cons, gT_tup, onlyDat_dat, notAli_dat, notAli_own, getO_some, fin_none, fin_some, finO_own, callA_nil, callA_dat, callA_ali, argS_none, argS_some, rt_ad, nx_ad, isN_none, isN_tup, notN_none, notN_tup, aNx, aRet, aIf, aSet, aAug, aDrop, aNever, aC, aBin, aBinR, aUn, aTst, aChain, aNot, aAnd, aOr, aIfE, aAndV, aOrV, aNotV, aNil, aCons, aTup, aLst, aCall1, aCallD, aIx, aApp, aExt, aSetIx, aTru, sLen, sAny, sAll, sSum, sList, sTuple, fI, fC, fB, aSeqI, aRng1, aFor, aFrz, gN, aUnp, aLc, aYes, aCall, aRep, aRgT, turn, wipeA, br_true, br_false, List.map_nil, List.map_cons, List.nil_append, List.cons_append, List.replicate, List.getElem?_cons_zero, List.getElem?_cons_succ, List.set_cons_zero, List.set_cons_succ, List.length_cons, List.length_nil, sIn_int, sNotIn_int, sEq_int, sNe_int, sEq_bool, sNe_bool, sEq_str, aSeq]
        exact ka
    · rw [show ((List.range p.toNat).map fun (q : Nat) => PyData.int ((((List.range w.length).filter fun k => decide ((q : Int) ∈ w.getD k [])).map fun k => cs.getD k 0).sum)) = (loadsF p w cs).map PyData.int by unfold loadsF; rw [List.map_map]; rfl]
      simp only [aName_eq, nm_dat, nm_own, dd_dat, dd_own, bb_bool, arg_dat, arg_own, arg_ali, das_nil, das_dat, cont_list, cont_tup, cont_own, cont_ali, contS_own, ownL_own, ownO_own, stor_dat, stor_own, iD_int, ii_int, i1_int, sAddU_int, sAddU_tup, truS_none, truS_bool, truS_int, truS_list, truS_tup, truS_ali, srcOf_list, srcOf_tup, srcOf_ali, Ab.got_some, gZ_nil, gC_cons, gT_tup, onlyDat_dat, notAli_dat, notAli_own, getO_some, fin_none, fin_some, finO_own, callA_nil, callA_dat, callA_ali, argS_none, argS_some, rt_ad, nx_ad, isN_none, isN_tup, notN_none, notN_tup, aNx, aRet, aIf, aSet, aAug, aDrop, aNever, aC, aBin, aBinR, aUn, aTst, aChain, aNot, aAnd, aOr, aIfE, aAndV, aOrV, aNotV, aNil, aCons, aTup, aLst, aCall1, aCallD, aIx, aApp, aExt, aSetIx, aTru, sLen, sAny, sAll, sSum, sList, sTuple, fI, fC, fB, aSeqI, aRng1, aFor, aFrz, gN, aUnp, aLc, aYes, aCall, aRep, aRgT, turn, wipeA, br_true, br_false, List.map_nil, List.map_cons, List.nil_append, List.cons_append, List.replicate, List.getElem?_cons_zero, List.getElem?_cons_succ, List.set_cons_zero, List.set_cons_succ, List.length_cons, List.length_nil, sIn_int, sNotIn_int, sEq_int, sNe_int, sEq_bool, sNe_bool, sEq_str, aSeq]
      refine sMax_nonneg (loads_ne h1) (loads_nn h0) ?_
      simp only [aName_eq, nm_dat, nm_own, dd_dat, dd_own, bb_bool, arg_dat, arg_own, arg_ali, das_nil, das_dat, cont_list, cont_tup, cont_own, cont_ali, contS_own, ownL_own, ownO_own, stor_dat, stor_own, iD_int, ii_int, i1_int, sAddU_int, sAddU_tup, truS_none, truS_bool, truS_int, truS_list, truS_tup, truS_ali, srcOf_list, srcOf_tup, srcOf_ali, Ab.got_some, gZ_nil, gC_cons, gT_tup, onlyDat_dat, notAli_dat, notAli_own, getO_some, fin_none, fin_some, finO_own, callA_nil, callA_dat, callA_ali, argS_none, argS_some, rt_ad, nx_ad, isN_none, isN_tup, notN_none, notN_tup, aNx, aRet, aIf, aSet, aAug, aDrop, aNever, aC, aBin, aBinR, aUn, aTst, aChain, aNot, aAnd, aOr, aIfE, aAndV, aOrV, aNotV, aNil, aCons, aTup, aLst, aCall1, aCallD, aIx, aApp, aExt, aSetIx, aTru, sLen, sAny, sAll, sSum, sList, sTuple, fI, fC, fB, aSeqI, aRng1, aFor, aFrz, gN, aUnp, aLc, aYes, aCall, aRep, aRgT, turn, wipeA, br_true, br_false, List.map_nil, List.map_cons, List.nil_append, List.cons_append, List.replicate, List.getElem?_cons_zero, List.getElem?_cons_succ, List.set_cons_zero, List.set_cons_succ, List.length_cons, List.length_nil, sIn_int, sNotIn_int, sEq_int, sNe_int, sEq_bool, sNe_bool, sEq_str, aSeq]
      exact ⟨small_le (by decide), k⟩
end
end K75

set_option maxHeartbeats 4000000
namespace K75
open PySem PySem.Spec PyProof.Rows L2 Ab
theorem at_0 {a : PyData} {r : List PyData} : atI (a :: r) 0 = some a := atI_nat (j := 0) rfl
theorem at_1 {a b : PyData} {r : List PyData} : atI (a :: b :: r) 1 = some b := atI_nat (j := 1) rfl
theorem at_2 {a b c : PyData} {r : List PyData} : atI (a :: b :: c :: r) 2 = some c := atI_nat (j := 2) rfl
theorem at_3 {a b c d : PyData} {r : List PyData} : atI (a :: b :: c :: d :: r) 3 = some d := atI_nat (j := 3) rfl
theorem ix4_1 : ixN (0 + 1 + 1 + 1 + 1) 1 = some 1 := rfl
theorem ix4_2 : ixN (0 + 1 + 1 + 1 + 1) 2 = some 2 := rfl
theorem ix4_3 : ixN (0 + 1 + 1 + 1 + 1) 3 = some 3 := rfl
theorem fm_rng {a b : Int} (h : 1 ≤ b) : 0 ≤ a.fmod b ∧ a.fmod b < b := by
  rw [Int.fmod_eq_emod_of_nonneg _ (by omega)]
  exact ⟨Int.emod_nonneg _ (by omega), Int.emod_lt_of_pos _ (by omega)⟩
theorem fd_nn {a b : Int} (h0 : 0 ≤ a) (h : 1 ≤ b) : 0 ≤ a.fdiv b := by
  rw [Int.fdiv_eq_ediv_of_nonneg _ (by omega)]
  exact Int.ediv_nonneg h0 (by omega)
section
variable {P : Program} {w : World} {K : PySem.W.Frag} {mg : Str → Option Value} {base : Heap}
theorem ok__law_begin (D : Defs K mg) : FnOk P w K mg base CX0 1 D.f__law_begin D.fd__law_begin ["script"] (toSp K sp__law_begin) := by
  refine ok_def D.F__law_begin sc__law_begin (fun oo ds Kc h => ?_) (fun cdv A outer s H E hr =>
      (ss_cons (s_set (ps_set (i := 1) sc__law_begin.nd rfl (.inl rfl) e_int))
      (ss_cons (s_for PassesOwn.never rfl (i_seq (e_name (pv 0))) (g_name (pg_name (i := 2) sc__law_begin.nd rfl (.inl rfl))) (ss_one (s_set (ps_set (i := 1) sc__law_begin.nd rfl (.inl rfl) (e_op op_modN dr_c (e_op op_addU dr_addU (e_op op_addU dr_addU (e_op op_mul dr_c (e_name (pv 1)) e_int) (e_op op_modN dr_c (e_callTyD call_int1 dr_int (by rfl) D.b_int boot_int (e_name (pv 2))) e_int)) e_int) e_int)))))
      (ss_one (s_ret (e_lst (x_cons (e_callTy call_list_of dc_list (by rfl) D.b_list boot_list (e_name (pv 0))) (x_cons e_int (x_cons e_int (x_cons (e_name (pv 1)) x_nil)))))))))) (fun oo ds Kc h => ?_)
  · obtain ⟨ns, rfl, rfl, _⟩ := h
    rfl
  · obtain ⟨ns, rfl, rfl, hl, k⟩ := h
    simp only [aName_eq, nm_dat, nm_own, dd_dat, dd_own, bb_bool, arg_dat, arg_own, arg_ali, das_nil, das_dat, cont_list, cont_tup, cont_own, cont_ali, contS_own, ownL_own, ownO_own, stor_dat, stor_own, iD_int, ii_int, i1_int, sAddU_int, sAddU_tup, truS_none, truS_bool, truS_int, truS_list, truS_tup, truS_ali, srcOf_list, srcOf_tup, srcOf_ali, Ab.got_some, gZ_nil, gC_cons, gT_tup, onlyDat_dat, notAli_dat, notAli_own, getO_some, fin_none, fin_some, finO_own, callA_nil, callA_dat, callA_ali, argS_none, argS_some, rt_ad, nx_ad, isN_none, isN_tup, notN_none, notN_tup, aNx, aRet, aIf, aSet, aAug, aDrop, aNever, aC, aBin, aBinR, aUn, aTst, aChain, aNot, aAnd, aOr, aIfE, aAndV, aOrV, aNotV, aNil, aCons, aTup, aLst, aCall1, aCallD, aIx, aApp, aExt, aSetIx, aTru, sLen, sAny, sAll, sSum, sList, sTuple, fI, fC, fB, aSeqI, aRng1, aFor, aFrz, gN, aUnp, aLc, aYes, aCall, aRep, aRgT, turn, wipeA, br_true, br_false, List.map_nil, List.map_cons, List.nil_append, List.cons_append, List.replicate, List.getElem?_cons_zero, List.getElem?_cons_succ, List.set_cons_zero, List.set_cons_succ, List.length_cons, List.length_nil, sIn_int, sNotIn_int, sEq_int, sNe_int, sEq_bool, sNe_bool, sEq_str, aSeq]
    refine ⟨trivial, fun _ => trivial, ?_⟩
    refine for_inv (enc := PyData.int) (xs := ns) (fun pre ρ => ∃ (s : Int) (x2 : Option AV), ρ = [some (.dat (.list (ns.map PyData.int))), some (.dat (.int s)), x2]) ⟨_, _, rfl⟩ ?_ ?_
    · rintro pre x post e ρ ⟨s, x2, rfl⟩ Kn kn
      simp only [aName_eq, nm_dat, nm_own, dd_dat, dd_own, bb_bool, arg_dat, arg_own, arg_ali, das_nil, das_dat, cont_list, cont_tup, cont_own, cont_ali, contS_own, ownL_own, ownO_own, stor_dat, stor_own, iD_int, ii_int, i1_int, sAddU_int, sAddU_tup, truS_none, truS_bool, truS_int, truS_list, truS_tup, truS_ali, srcOf_list, srcOf_tup, srcOf_ali, Ab.got_some, gZ_nil, gC_cons, gT_tup, onlyDat_dat, notAli_dat, notAli_own, getO_some, fin_none, fin_some, finO_own, callA_nil, callA_dat, callA_ali, argS_none, argS_some, rt_ad, nx_ad, isN_none, isN_tup, notN_none, notN_tup, aNx, aRet, aIf, aSet, aAug, aDrop, aNever, aC, aBin, aBinR, aUn, aTst, aChain, aNot, aAnd, aOr, aIfE, aAndV, aOrV, aNotV, aNil, aCons, aTup, aLst, aCall1, aCallD, aIx, aApp, aExt, aSetIx, aTru, sLen, sAny, sAll, sSum, sList, sTuple, fI, fC, fB, aSeqI, aRng1, aFor, aFrz, gN, aUnp, aLc, aYes, aCall, aRep, aRgT, turn, wipeA, br_true, br_false, List.map_nil, List.map_cons, List.nil_append, List.cons_append, List.replicate, List.getElem?_cons_zero, List.getElem?_cons_succ, List.set_cons_zero, List.set_cons_succ, List.length_cons, List.length_nil, sIn_int, sNotIn_int, sEq_int, sNe_int, sEq_bool, sNe_bool, sEq_str, aSeq]
      exact ⟨.inr ⟨by decide, by decide⟩, by decide, by decide, kn _ ⟨_, _, rfl⟩⟩
    · rintro ρ ⟨s, x2, rfl⟩
      simp only [aName_eq, nm_dat, nm_own, dd_dat, dd_own, bb_bool, arg_dat, arg_own, arg_ali, das_nil, das_dat, cont_list, cont_tup, cont_own, cont_ali, contS_own, ownL_own, ownO_own, stor_dat, stor_own, iD_int, ii_int, i1_int, sAddU_int, sAddU_tup, truS_none, truS_bool, truS_int, truS_list, truS_tup, truS_ali, srcOf_list, srcOf_tup, srcOf_ali, Ab.got_some, gZ_nil, gC_cons, gT_tup, onlyDat_dat, notAli_dat, notAli_own, getO_some, fin_none, fin_some, finO_own, callA_nil, callA_dat, callA_ali, argS_none, argS_some, rt_ad, nx_ad, isN_none, isN_tup, notN_none, notN_tup, aNx, aRet, aIf, aSet, aAug, aDrop, aNever, aC, aBin, aBinR, aUn, aTst, aChain, aNot, aAnd, aOr, aIfE, aAndV, aOrV, aNotV, aNil, aCons, aTup, aLst, aCall1, aCallD, aIx, aApp, aExt, aSetIx, aTru, sLen, sAny, sAll, sSum, sList, sTuple, fI, fC, fB, aSeqI, aRng1, aFor, aFrz, gN, aUnp, aLc, aYes, aCall, aRep, aRgT, turn, wipeA, br_true, br_false, List.map_nil, List.map_cons, List.nil_append, List.cons_append, List.replicate, List.getElem?_cons_zero, List.getElem?_cons_succ, List.set_cons_zero, List.set_cons_succ, List.length_cons, List.length_nil, sIn_int, sNotIn_int, sEq_int, sNe_int, sEq_bool, sNe_bool, sEq_str, aSeq]
      exact ⟨small_le (by decide), k s⟩
theorem ok__law_take (D : Defs K mg) : FnOk P w K mg base CX0 1 D.f__law_take D.fd__law_take ["d", "many"] (toSp K sp__law_take) := by
  refine ok_def D.F__law_take sc__law_take (fun oo ds Kc h => ?_) (fun cdv A outer s H E hr =>
      (ss_cons (s_if (t_w (w_andC (t_cmp (op_eqP hr.units) dr_eq (e_ix (e_name (pv 0)) e_int) e_int (nomark _)) (w_and1 (t_cmp op_lt dr_b (e_ix (e_name (pv 0)) e_int) (e_callB call_len_seq dc_len (by rfl) D.b_len PySem.boot_len (e_ix (e_name (pv 0)) e_int)) (nomark _))))) (ss_cons (let ix := e_int; s_setIx (pv 0) ix (e_callBD call_abs dr_abs (by rfl) D.b_abs boot_abs (e_callTyD call_int1 dr_int (by rfl) D.b_int boot_int (e_ix (e_ix (e_name (pv 0)) e_int) (e_ix (e_name (pv 0)) e_int)))) (pg_sub (pv 0) ix set_list))
      (ss_cons (let ix := e_int; s_setIx (pv 0) ix (e_op op_addU dr_addU (e_ix (e_name (pv 0)) e_int) e_int) (pg_sub (pv 0) ix set_list))
      (ss_one (s_if (t_cmp op_lt dr_b (e_ix (e_name (pv 0)) e_int) (e_op op_pow dr_c e_int e_int) (nomark _)) (ss_cons (s_set (ps_set (i := 2) sc__law_take.nd rfl (.inl rfl) (e_callTyD call_int1 dr_int (by rfl) D.b_int boot_int (e_ix (e_name (pv 0)) e_int))))
      (ss_cons (let ix := e_int; s_setIx (pv 0) ix e_int (pg_sub (pv 0) ix set_list))
      (ss_one (s_ret (e_op op_modN dr_c (e_name (pv 2)) (e_name (pv 1))))))) ss_nil)))) ss_nil)
      (ss_cons (s_if (t_cmp op_gt dr_b (e_ix (e_name (pv 0)) e_int) e_int (nomark _)) (ss_cons (s_set (ps_set (i := 3) sc__law_take.nd rfl (.inl rfl) (e_op op_modN dr_c (e_callTyD call_int1 dr_int (by rfl) D.b_int boot_int (e_ix (e_name (pv 0)) e_int)) (e_name (pv 1)))))
      (ss_cons (let ix := e_int; s_setIx (pv 0) ix (e_op op_fdivN dr_c (e_callTyD call_int1 dr_int (by rfl) D.b_int boot_int (e_ix (e_name (pv 0)) e_int)) (e_name (pv 1))) (pg_sub (pv 0) ix set_list))
      (ss_one (s_ret (e_name (pv 3)))))) ss_nil)
      (ss_cons (let ix := e_int; s_setIx (pv 0) ix (e_op op_modN dr_c (e_callTyD call_int1 dr_int (by rfl) D.b_int boot_int (e_op op_addU dr_addU (e_op op_mul dr_c (e_ix (e_name (pv 0)) e_int) e_int) e_int)) e_int) (pg_sub (pv 0) ix set_list))
      (ss_one (s_ret (e_op op_modN dr_c (e_callTyD call_int1 dr_int (by rfl) D.b_int boot_int (e_op op_fdivN dr_c (e_ix (e_name (pv 0)) e_int) e_int)) (e_name (pv 1))))))))) (fun oo ds Kc h => ?_)
  · obtain ⟨ns, t, l, s, many, rfl, rfl, _⟩ := h
    rfl
  · obtain ⟨ns, t, l, s, many, rfl, rfl, hT, h1, h2, k⟩ := h
    simp only [tape, at_0, at_1, at_2, at_3, ix4_1, ix4_2, ix4_3, List.length_map, aName_eq, nm_dat, nm_own, dd_dat, dd_own, bb_bool, arg_dat, arg_own, arg_ali, das_nil, das_dat, cont_list, cont_tup, cont_own, cont_ali, contS_own, ownL_own, ownO_own, stor_dat, stor_own, iD_int, ii_int, i1_int, sAddU_int, sAddU_tup, truS_none, truS_bool, truS_int, truS_list, truS_tup, truS_ali, srcOf_list, srcOf_tup, srcOf_ali, Ab.got_some, gZ_nil, gC_cons, gT_tup, onlyDat_dat, notAli_dat, notAli_own, getO_some, fin_none, fin_some, finO_own, callA_nil, callA_dat, callA_ali, argS_none, argS_some, rt_ad, nx_ad, isN_none, isN_tup, notN_none, notN_tup, aNx, aRet, aIf, aSet, aAug, aDrop, aNever, aC, aBin, aBinR, aUn, aTst, aChain, aNot, aAnd, aOr, aIfE, aAndV, aOrV, aNotV, aNil, aCons, aTup, aLst, aCall1, aCallD, aIx, aApp, aExt, aSetIx, aTru, sLen, sAny, sAll, sSum, sList, sTuple, fI, fC, fB, aSeqI, aRng1, aFor, aFrz, gN, aUnp, aLc, aYes, aCall, aRep, aRgT, turn, wipeA, br_true, br_false, List.map_nil, List.map_cons, List.nil_append, List.cons_append, List.replicate, List.getElem?_cons_zero, List.getElem?_cons_succ, List.set_cons_zero, List.set_cons_succ, List.length_cons, List.length_nil, sIn_int, sNotIn_int, sEq_int, sNe_int, sEq_bool, sNe_bool, sEq_str, aSeq]
    obtain ⟨a1, a2, a3⟩ := hT
    have hm : many ≠ 0 := by omega
    have hd : CDivN l many := ⟨hm, by omega⟩
    have low : ∀ (t : Int), 0 ≤ t → t ≤ ns.length → ∀ l : Int, OkTape ns t 0 s := fun t b1 b2 l => ⟨b1, b2, Int.le_refl _⟩
    refine ⟨fun hl => ⟨fun ht => ?_, fun ht => ⟨fun g => ?_, fun g => ?_⟩⟩, fun hl => ⟨fun g => ?_, fun g => ?_⟩⟩
    · have ht : t < ns.length := of_decide_eq_true ht
      rw [atI_nn a1 ht]
      simp only [at_0, at_1, at_2, at_3, ix4_1, ix4_2, ix4_3, aName_eq, nm_dat, nm_own, dd_dat, dd_own, bb_bool, arg_dat, arg_own, arg_ali, das_nil, das_dat, cont_list, cont_tup, cont_own, cont_ali, contS_own, ownL_own, ownO_own, stor_dat, stor_own, iD_int, ii_int, i1_int, sAddU_int, sAddU_tup, truS_none, truS_bool, truS_int, truS_list, truS_tup, truS_ali, srcOf_list, srcOf_tup, srcOf_ali, Ab.got_some, gZ_nil, gC_cons, gT_tup, onlyDat_dat, notAli_dat, notAli_own, getO_some, fin_none, fin_some, finO_own, callA_nil, callA_dat, callA_ali, argS_none, argS_some, rt_ad, nx_ad, isN_none, isN_tup, notN_none, notN_tup, aNx, aRet, aIf, aSet, aAug, aDrop, aNever, aC, aBin, aBinR, aUn, aTst, aChain, aNot, aAnd, aOr, aIfE, aAndV, aOrV, aNotV, aNil, aCons, aTup, aLst, aCall1, aCallD, aIx, aApp, aExt, aSetIx, aTru, sLen, sAny, sAll, sSum, sList, sTuple, fI, fC, fB, aSeqI, aRng1, aFor, aFrz, gN, aUnp, aLc, aYes, aCall, aRep, aRgT, turn, wipeA, br_true, br_false, List.map_nil, List.map_cons, List.nil_append, List.cons_append, List.replicate, List.getElem?_cons_zero, List.getElem?_cons_succ, List.set_cons_zero, List.set_cons_succ, List.length_cons, List.length_nil, sIn_int, sNotIn_int, sEq_int, sNe_int, sEq_bool, sNe_bool, sEq_str, aSeq]
      generalize hx : (if ns.getD t.toNat 0 < 0 then -ns.getD t.toNat 0 else ns.getD t.toNat 0) = x
      have hx0 : 0 ≤ x := by
        rw [← hx]
        split <;> omega
      have f := fm_rng (a := x) h1
      refine ⟨⟨by decide, by decide, by decide⟩, fun _ => ⟨hm, k _ (t + 1) 0 s f.1 f.2 ⟨by omega, by omega, Int.le_refl _⟩⟩, fun _ => ⟨fun _ => ⟨hm, ⟨hm, by omega⟩, k _ (t + 1) (x.fdiv many) s f.1 f.2 ⟨by omega, by omega, fd_nn hx0 h1⟩⟩, fun _ => ⟨.inr ⟨by decide, by decide⟩, by decide, ⟨by decide, by decide⟩, hm, ?_⟩⟩⟩
      have f := fm_rng (a := ((s * 48271 + 11).fmod 2147483647).fdiv 3) h1
      exact k _ (t + 1) x _ f.1 f.2 ⟨by omega, by omega, hx0⟩
    · have f := fm_rng (a := l) h1
      exact ⟨hm, hd, k _ t (l.fdiv many) s f.1 f.2 ⟨by omega, by omega, fd_nn a3 h1⟩⟩
    · have f := fm_rng (a := ((s * 48271 + 11).fmod 2147483647).fdiv 3) h1
      exact ⟨.inr ⟨by decide, by decide⟩, by decide, ⟨by decide, by decide⟩, hm, k _ t l _ f.1 f.2 ⟨by omega, by omega, a3⟩⟩
    · have f := fm_rng (a := l) h1
      exact ⟨hm, hd, k _ t (l.fdiv many) s f.1 f.2 ⟨by omega, by omega, fd_nn a3 h1⟩⟩
    · have f := fm_rng (a := ((s * 48271 + 11).fmod 2147483647).fdiv 3) h1
      exact ⟨.inr ⟨by decide, by decide⟩, by decide, ⟨by decide, by decide⟩, hm, k _ t l _ f.1 f.2 ⟨by omega, by omega, a3⟩⟩
theorem ok__law_set (D : Defs K mg) : FnOk P w K mg base CX0 2 D.f__law_set D.fd__law_set ["d", "places"] (toSp K sp__law_set) := by
  have G__law_take : FnOk P w K mg base CX0 1 D.f__law_take D.fd__law_take ["d", "many"] (toSp K sp__law_take) := ok__law_take D
  refine ok_def D.F__law_set sc__law_set (fun oo ds Kc h => ?_) (fun cdv A outer s H E hr =>
      (ss_cons (s_set (ps_set (i := 2) sc__law_set.nd rfl (.inl rfl) (e_callTy call_tuple_of dc_tuple (by rfl) D.b_tuple boot_tuple (e_lc (own := [("k", 3)]) rfl sc__law_set.nd (i_rng1 (by rfl) D.b_range (e_name (pv 1))) (blkOk_by (by kernel_rfl)) (fun _ _ _ _ _ => (g_name (pg_name (i := 3) sc__law_set.nd rfl (by first | exact Or.inl rfl | exact Or.inr rfl)))) (fun _ _ _ _ _ => (ts_one (t_cmp (op_eqP hr.units) dr_eq (e_call G__law_take (hr.mono (by decide)) (by rfl) D.g__law_take D.F__law_take.kp D.n__law_take (x_cons (e_name (pv 0)) (x_cons e_int x_nil))) e_int (nomark _)))) (fun _ _ _ _ _ => (e_name (pv 3)))))))
      (ss_one (s_ret (e_ifExp (t_cmp op_gt dr_b (e_callB call_len_seq dc_len (by rfl) D.b_len PySem.boot_len (e_name (pv 2))) e_int (nomark _)) (e_name (pv 2)) (e_tup (x_cons (e_call G__law_take (hr.mono (by decide)) (by rfl) D.g__law_take D.F__law_take.kp D.n__law_take (x_cons (e_name (pv 0)) (x_cons (e_name (pv 1)) x_nil))) x_nil))))))) (fun oo ds Kc h => ?_)
  · obtain ⟨ns, t, l, s, p, rfl, rfl, _⟩ := h
    rfl
  · obtain ⟨ns, t, l, s, p, rfl, rfl, hT, h1, h2, k⟩ := h
    simp only [aName_eq, nm_dat, nm_own, dd_dat, dd_own, bb_bool, arg_dat, arg_own, arg_ali, das_nil, das_dat, cont_list, cont_tup, cont_own, cont_ali, contS_own, ownL_own, ownO_own, stor_dat, stor_own, iD_int, ii_int, i1_int, sAddU_int, sAddU_tup, truS_none, truS_bool, truS_int, truS_list, truS_tup, truS_ali, srcOf_list, srcOf_tup, srcOf_ali, Ab.got_some, gZ_nil, gC_cons, gT_tup, onlyDat_dat, notAli_dat, notAli_own, getO_some, fin_none, fin_some, finO_own, callA_nil, callA_dat, callA_ali, argS_none, argS_some, rt_ad, nx_ad, isN_none, isN_tup, notN_none, notN_tup, aNx, aRet, aIf, aSet, aAug, aDrop, aNever, aC, aBin, aBinR, aUn, aTst, aChain, aNot, aAnd, aOr, aIfE, aAndV, aOrV, aNotV, aNil, aCons, aTup, aLst, aCall1, aCallD, aIx, aApp, aExt, aSetIx, aTru, sLen, sAny, sAll, sSum, sList, sTuple, fI, fC, fB, aSeqI, aRng1, aFor, aFrz, gN, aUnp, aLc, aYes, aCall, aRep, aRgT, turn, wipeA, br_true, br_false, List.map_nil, List.map_cons, List.nil_append, List.cons_append, List.replicate, List.getElem?_cons_zero, List.getElem?_cons_succ, List.set_cons_zero, List.set_cons_succ, List.length_cons, List.length_nil, sIn_int, sNotIn_int, sEq_int, sNe_int, sEq_bool, sNe_bool, sEq_str, aSeq]
    refine ⟨by omega, by omega, ?_⟩
    rw [rangeD0]
    refine lc_inv (enc := fun (q : Nat) => PyData.int (q : Int)) (fun pre acc ρ => ∃ (ks : List Nat) (t l s : Int), ks.Sublist pre ∧ acc = ks.map (fun (q : Nat) => PyData.int (q : Int)) ∧ OkTape ns t l s ∧ ρ = [some (.own (some 0) (.lst (tape ns t l s))), some (.dat (.int p)), none, none])
      ⟨[], t, l, s, .slnil, rfl, hT, rfl⟩ (small_len (by simp; omega)) (fun pre acc ρ hI => ?_) ?_ ?_
    · obtain ⟨ks, t, l, s, _, _, _, rfl⟩ := hI
      exact ⟨trivial, by simp [Ab.freeOf]⟩
    · rintro pre x post e acc ρ ⟨ks, t, l, s, g1, g2, g3, rfl⟩ Ka Ks ka ks'
      simp only [aName_eq, nm_dat, nm_own, dd_dat, dd_own, bb_bool, arg_dat, arg_own, arg_ali, das_nil, das_dat, cont_list, cont_tup, cont_own, cont_ali, contS_own, ownL_own, ownO_own, stor_dat, stor_own, iD_int, ii_int, i1_int, sAddU_int, sAddU_tup, truS_none, truS_bool, truS_int, truS_list, truS_tup, truS_ali, srcOf_list, srcOf_tup, srcOf_ali, Ab.got_some, gZ_nil, gC_cons, gT_tup, onlyDat_dat, notAli_dat, notAli_own, getO_some, fin_none, fin_some, finO_own, callA_nil, callA_dat, callA_ali, argS_none, argS_some, rt_ad, nx_ad, isN_none, isN_tup, notN_none, notN_tup, aNx, aRet, aIf, aSet, aAug, aDrop, aNever, aC, aBin, aBinR, aUn, aTst, aChain, aNot, aAnd, aOr, aIfE, aAndV, aOrV, aNotV, aNil, aCons, aTup, aLst, aCall1, aCallD, aIx, aApp, aExt, aSetIx, aTru, sLen, sAny, sAll, sSum, sList, sTuple, fI, fC, fB, aSeqI, aRng1, aFor, aFrz, gN, aUnp, aLc, aYes, aCall, aRep, aRgT, turn, wipeA, br_true, br_false, List.map_nil, List.map_cons, List.nil_append, List.cons_append, List.replicate, List.getElem?_cons_zero, List.getElem?_cons_succ, List.set_cons_zero, List.set_cons_succ, List.length_cons, List.length_nil, sIn_int, sNotIn_int, sEq_int, sNe_int, sEq_bool, sNe_bool, sEq_str, aSeq]
      refine ⟨ns, t, l, s, 2, rfl, rfl, g3, by decide, by decide, fun r t' l' s' r0 r1 hT' => ?_⟩
      simp only [aName_eq, nm_dat, nm_own, dd_dat, dd_own, bb_bool, arg_dat, arg_own, arg_ali, das_nil, das_dat, cont_list, cont_tup, cont_own, cont_ali, contS_own, ownL_own, ownO_own, stor_dat, stor_own, iD_int, ii_int, i1_int, sAddU_int, sAddU_tup, truS_none, truS_bool, truS_int, truS_list, truS_tup, truS_ali, srcOf_list, srcOf_tup, srcOf_ali, Ab.got_some, gZ_nil, gC_cons, gT_tup, onlyDat_dat, notAli_dat, notAli_own, getO_some, fin_none, fin_some, finO_own, callA_nil, callA_dat, callA_ali, argS_none, argS_some, rt_ad, nx_ad, isN_none, isN_tup, notN_none, notN_tup, aNx, aRet, aIf, aSet, aAug, aDrop, aNever, aC, aBin, aBinR, aUn, aTst, aChain, aNot, aAnd, aOr, aIfE, aAndV, aOrV, aNotV, aNil, aCons, aTup, aLst, aCall1, aCallD, aIx, aApp, aExt, aSetIx, aTru, sLen, sAny, sAll, sSum, sList, sTuple, fI, fC, fB, aSeqI, aRng1, aFor, aFrz, gN, aUnp, aLc, aYes, aCall, aRep, aRgT, turn, wipeA, br_true, br_false, List.map_nil, List.map_cons, List.nil_append, List.cons_append, List.replicate, List.getElem?_cons_zero, List.getElem?_cons_succ, List.set_cons_zero, List.set_cons_succ, List.length_cons, List.length_nil, sIn_int, sNotIn_int, sEq_int, sNe_int, sEq_bool, sNe_bool, sEq_str, aSeq]
      refine ⟨fun _ => ka _ _ ⟨ks ++ [x], t', l', s', g1.append (List.Sublist.refl _), ?_, hT', rfl⟩, fun _ => ks' _ ⟨ks, t', l', s', g1.trans (List.sublist_append_left _ _), g2, hT', rfl⟩⟩
      rw [List.map_append, ← g2]
      rfl
    · rintro acc ρ ⟨ks, t, l, s, g1, rfl, g3, rfl⟩
      have hS : IsSet p (ks.map fun (q : Nat) => (q : Int)) := ⟨by
        rw [Asc, List.pairwise_map]
        exact (List.pairwise_lt_range.sublist g1).imp fun h => by omega, fun x hx => by
        obtain ⟨q, hq, rfl⟩ := List.mem_map.mp hx
        have := List.mem_range.mp (g1.subset hq)
        omega⟩
      have em : (ks.map fun (q : Nat) => PyData.int (q : Int)) = (ks.map fun (q : Nat) => (q : Int)).map PyData.int := by rw [List.map_map]; rfl
      rw [em]
      generalize (ks.map fun (q : Nat) => (q : Int)) = row at hS
      simp only [List.length_map, aName_eq, nm_dat, nm_own, dd_dat, dd_own, bb_bool, arg_dat, arg_own, arg_ali, das_nil, das_dat, cont_list, cont_tup, cont_own, cont_ali, contS_own, ownL_own, ownO_own, stor_dat, stor_own, iD_int, ii_int, i1_int, sAddU_int, sAddU_tup, truS_none, truS_bool, truS_int, truS_list, truS_tup, truS_ali, srcOf_list, srcOf_tup, srcOf_ali, Ab.got_some, gZ_nil, gC_cons, gT_tup, onlyDat_dat, notAli_dat, notAli_own, getO_some, fin_none, fin_some, finO_own, callA_nil, callA_dat, callA_ali, argS_none, argS_some, rt_ad, nx_ad, isN_none, isN_tup, notN_none, notN_tup, aNx, aRet, aIf, aSet, aAug, aDrop, aNever, aC, aBin, aBinR, aUn, aTst, aChain, aNot, aAnd, aOr, aIfE, aAndV, aOrV, aNotV, aNil, aCons, aTup, aLst, aCall1, aCallD, aIx, aApp, aExt, aSetIx, aTru, sLen, sAny, sAll, sSum, sList, sTuple, fI, fC, fB, aSeqI, aRng1, aFor, aFrz, gN, aUnp, aLc, aYes, aCall, aRep, aRgT, turn, wipeA, br_true, br_false, List.map_nil, List.map_cons, List.nil_append, List.cons_append, List.replicate, List.getElem?_cons_zero, List.getElem?_cons_succ, List.set_cons_zero, List.set_cons_succ, List.length_cons, List.length_nil, sIn_int, sNotIn_int, sEq_int, sNe_int, sEq_bool, sNe_bool, sEq_str, aSeq]
      refine ⟨fun hh => ?_, fun hh => ?_⟩
      · refine k row t l s ⟨?_, hS.asc, hS.rng⟩ g3
        rintro rfl
        simp at hh
      · refine ⟨ns, t, l, s, p, rfl, rfl, g3, by omega, by omega, fun r t' l' s' r0 r1 hT' => ?_⟩
        simp only [aName_eq, nm_dat, nm_own, dd_dat, dd_own, bb_bool, arg_dat, arg_own, arg_ali, das_nil, das_dat, cont_list, cont_tup, cont_own, cont_ali, contS_own, ownL_own, ownO_own, stor_dat, stor_own, iD_int, ii_int, i1_int, sAddU_int, sAddU_tup, truS_none, truS_bool, truS_int, truS_list, truS_tup, truS_ali, srcOf_list, srcOf_tup, srcOf_ali, Ab.got_some, gZ_nil, gC_cons, gT_tup, onlyDat_dat, notAli_dat, notAli_own, getO_some, fin_none, fin_some, finO_own, callA_nil, callA_dat, callA_ali, argS_none, argS_some, rt_ad, nx_ad, isN_none, isN_tup, notN_none, notN_tup, aNx, aRet, aIf, aSet, aAug, aDrop, aNever, aC, aBin, aBinR, aUn, aTst, aChain, aNot, aAnd, aOr, aIfE, aAndV, aOrV, aNotV, aNil, aCons, aTup, aLst, aCall1, aCallD, aIx, aApp, aExt, aSetIx, aTru, sLen, sAny, sAll, sSum, sList, sTuple, fI, fC, fB, aSeqI, aRng1, aFor, aFrz, gN, aUnp, aLc, aYes, aCall, aRep, aRgT, turn, wipeA, br_true, br_false, List.map_nil, List.map_cons, List.nil_append, List.cons_append, List.replicate, List.getElem?_cons_zero, List.getElem?_cons_succ, List.set_cons_zero, List.set_cons_succ, List.length_cons, List.length_nil, sIn_int, sNotIn_int, sEq_int, sNe_int, sEq_bool, sNe_bool, sEq_str, aSeq]
        exact ⟨small_le (by decide), k [r] t' l' s' ⟨by simp, by simp, fun x hx => by rw [List.mem_singleton.mp hx]; exact ⟨r0, r1⟩⟩ hT'⟩
theorem ok__law_least (D : Defs K mg) : FnOk P w K mg base CX0 1 D.f__law_least D.fd__law_least ["rows"] (toSp K sp__law_least) := by
  refine ok_def D.F__law_least sc__law_least (fun oo ds Kc h => ?_) (fun cdv A outer s H E hr =>
      (ss_cons (s_set (ps_set (i := 1) sc__law_least.nd rfl (.inl rfl) (e_lst x_nil)))
      (ss_cons (s_for PassesOwn.never rfl (i_seq (e_sortSet hr.units D.b_sorted D.b_set (e_name (pv 0)))) (g_name (pg_name (i := 2) sc__law_least.nd rfl (.inr rfl))) (ss_one (s_if (t_cmp (op_eqP hr.units) dr_eq (e_callB call_len_seq dc_len (by rfl) D.b_len PySem.boot_len (e_lc (own := [("other", 3)]) rfl sc__law_least.nd (i_seq (e_name (pv 0))) (blkOk_by (by kernel_rfl)) (fun _ _ _ _ _ => (g_name (pg_name (i := 3) sc__law_least.nd rfl (by first | exact Or.inl rfl | exact Or.inr rfl)))) (fun _ _ _ _ _ => (ts_one (t_w (w_andC (t_cmp (op_neP hr.units) dr_ne (e_name (pv 3)) (e_name (pv 2)) (nomark _)) (w_and1 (t_cmp (op_eqP hr.units) dr_eq (e_callB call_len_seq dc_len (by rfl) D.b_len PySem.boot_len (e_lc (own := [("k", 4)]) rfl sc__law_least.nd (i_seq (e_name (pv 3))) (blkOk_by (by kernel_rfl)) (fun _ _ _ _ _ => (g_name (pg_name (i := 4) sc__law_least.nd rfl (by first | exact Or.inl rfl | exact Or.inr rfl)))) (fun _ _ _ _ _ => (ts_one (t_cmpS (op_notInP hr.units) dr_notIn (e_name (pv 4)) (e_name (pv 2))))) (fun _ _ _ _ _ => (e_name (pv 4))))) e_int (nomark _))))))) (fun _ _ _ _ _ => (e_name (pv 3))))) e_int (nomark _)) (ss_one (s_app (pe_append (pv 1) (e_name (pv 2))))) ss_nil)))
      (ss_one (s_ret (e_lc (own := [("size", 5), ("row", 2)]) rfl sc__law_least.nd (i_seq (e_callB (cr_sortD hr.units) dc_sorted (by rfl) D.b_sorted boot_sorted (e_lc (own := [("row", 2)]) rfl sc__law_least.nd (i_seq (e_name (pv 1))) (blkOk_by (by kernel_rfl)) (fun _ _ _ _ _ => (g_name (pg_name (i := 2) sc__law_least.nd rfl (by first | exact Or.inl rfl | exact Or.inr rfl)))) (fun _ _ _ _ _ => ts_nil) (fun _ _ _ _ _ => (e_tup (x_cons (e_callB call_len_seq dc_len (by rfl) D.b_len PySem.boot_len (e_name (pv 2))) (x_cons (e_name (pv 2)) x_nil))))))) (blkOk_by (by kernel_rfl)) (fun _ _ _ _ _ => (g_tup (pg_tup (n := 2) rfl (gs_cons (g_name (pg_name (i := 5) sc__law_least.nd rfl (by first | exact Or.inl rfl | exact Or.inr rfl))) (gs_cons (g_name (pg_name (i := 2) sc__law_least.nd rfl (by first | exact Or.inl rfl | exact Or.inr rfl))) gs_nil))))) (fun _ _ _ _ _ => ts_nil) (fun _ _ _ _ _ => (e_name (pv 2))))))))) (fun oo ds Kc h => ?_)
  · obtain ⟨rows, rfl, rfl, _⟩ := h
    rfl
  · obtain ⟨rows, rfl, rfl, hl, hr, k⟩ := h
    simp only [aName_eq, nm_dat, nm_own, dd_dat, dd_own, bb_bool, arg_dat, arg_own, arg_ali, das_nil, das_dat, cont_list, cont_tup, cont_own, cont_ali, contS_own, ownL_own, ownO_own, stor_dat, stor_own, iD_int, ii_int, i1_int, sAddU_int, sAddU_tup, truS_none, truS_bool, truS_int, truS_list, truS_tup, truS_ali, srcOf_list, srcOf_tup, srcOf_ali, Ab.got_some, gZ_nil, gC_cons, gT_tup, onlyDat_dat, notAli_dat, notAli_own, getO_some, fin_none, fin_some, finO_own, callA_nil, callA_dat, callA_ali, argS_none, argS_some, rt_ad, nx_ad, isN_none, isN_tup, notN_none, notN_tup, aNx, aRet, aIf, aSet, aAug, aDrop, aNever, aC, aBin, aBinR, aUn, aTst, aChain, aNot, aAnd, aOr, aIfE, aAndV, aOrV, aNotV, aNil, aCons, aTup, aLst, aCall1, aCallD, aIx, aApp, aExt, aSetIx, aTru, sLen, sAny, sAll, sSum, sList, sTuple, fI, fC, fB, aSeqI, aRng1, aFor, aFrz, gN, aUnp, aLc, aYes, aCall, aRep, aRgT, turn, wipeA, br_true, br_false, List.map_nil, List.map_cons, List.nil_append, List.cons_append, List.replicate, List.getElem?_cons_zero, List.getElem?_cons_succ, List.set_cons_zero, List.set_cons_succ, List.length_cons, List.length_nil, sIn_int, sNotIn_int, sEq_int, sNe_int, sEq_bool, sNe_bool, sEq_str, aSeq]
    refine ⟨small_le (by decide), ?_⟩
    have hRR : AS = List (Option AV) := rfl
    unfold aSortSet
    simp only [eR, aName_eq, nm_dat, nm_own, dd_dat, dd_own, bb_bool, arg_dat, arg_own, arg_ali, das_nil, das_dat, cont_list, cont_tup, cont_own, cont_ali, contS_own, ownL_own, ownO_own, stor_dat, stor_own, iD_int, ii_int, i1_int, sAddU_int, sAddU_tup, truS_none, truS_bool, truS_int, truS_list, truS_tup, truS_ali, srcOf_list, srcOf_tup, srcOf_ali, Ab.got_some, gZ_nil, gC_cons, gT_tup, onlyDat_dat, notAli_dat, notAli_own, getO_some, fin_none, fin_some, finO_own, callA_nil, callA_dat, callA_ali, argS_none, argS_some, rt_ad, nx_ad, isN_none, isN_tup, notN_none, notN_tup, aNx, aRet, aIf, aSet, aAug, aDrop, aNever, aC, aBin, aBinR, aUn, aTst, aChain, aNot, aAnd, aOr, aIfE, aAndV, aOrV, aNotV, aNil, aCons, aTup, aLst, aCall1, aCallD, aIx, aApp, aExt, aSetIx, aTru, sLen, sAny, sAll, sSum, sList, sTuple, fI, fC, fB, aSeqI, aRng1, aFor, aFrz, gN, aUnp, aLc, aYes, aCall, aRep, aRgT, turn, wipeA, br_true, br_false, List.map_nil, List.map_cons, List.nil_append, List.cons_append, List.replicate, List.getElem?_cons_zero, List.getElem?_cons_succ, List.set_cons_zero, List.set_cons_succ, List.length_cons, List.length_nil, sIn_int, sNotIn_int, sEq_int, sNe_int, sEq_bool, sNe_bool, sEq_str, aSeq]
    refine ⟨rows, rfl, hl, fun r hr' => (hr r hr').1, fun rows1 nd me so => ?_⟩
    refine ⟨trivial, fun _ => trivial, ?_⟩
    have hlen1 : rows1.length ≤ 64 := by
      have := nd.length_le_of_subset fun x hx => (me x).mp hx
      omega
    let isl : List Int → Bool := fun r => (rows.filter fun o => !decide (o = r) && within o r).isEmpty
    refine for_inv (enc := tI) (xs := rows1) (fun pre ρ => ∃ x2, NoOwn x2 ∧ ρ = [some (.dat (eR rows)), some (.own none (.lst ((pre.filter isl).map tI))), x2, none, none, none]) ⟨none, trivial, rfl⟩ ?_ ?_
    · rintro pre row post e ρ ⟨x2, n2, rfl⟩ Kn kn
      have hrow : row ∈ rows := (me row).mp (by rw [e]; simp)
      simp only [eR, aName_eq, nm_dat, nm_own, dd_dat, dd_own, bb_bool, arg_dat, arg_own, arg_ali, das_nil, das_dat, cont_list, cont_tup, cont_own, cont_ali, contS_own, ownL_own, ownO_own, stor_dat, stor_own, iD_int, ii_int, i1_int, sAddU_int, sAddU_tup, truS_none, truS_bool, truS_int, truS_list, truS_tup, truS_ali, srcOf_list, srcOf_tup, srcOf_ali, Ab.got_some, gZ_nil, gC_cons, gT_tup, onlyDat_dat, notAli_dat, notAli_own, getO_some, fin_none, fin_some, finO_own, callA_nil, callA_dat, callA_ali, argS_none, argS_some, rt_ad, nx_ad, isN_none, isN_tup, notN_none, notN_tup, aNx, aRet, aIf, aSet, aAug, aDrop, aNever, aC, aBin, aBinR, aUn, aTst, aChain, aNot, aAnd, aOr, aIfE, aAndV, aOrV, aNotV, aNil, aCons, aTup, aLst, aCall1, aCallD, aIx, aApp, aExt, aSetIx, aTru, sLen, sAny, sAll, sSum, sList, sTuple, fI, fC, fB, aSeqI, aRng1, aFor, aFrz, gN, aUnp, aLc, aYes, aCall, aRep, aRgT, turn, wipeA, br_true, br_false, List.map_nil, List.map_cons, List.nil_append, List.cons_append, List.replicate, List.getElem?_cons_zero, List.getElem?_cons_succ, List.set_cons_zero, List.set_cons_succ, List.length_cons, List.length_nil, sIn_int, sNotIn_int, sEq_int, sNe_int, sEq_bool, sNe_bool, sEq_str, aSeq]
      refine lc_pure (enc := tI) (fun o => !decide (o = row) && within o row) tI trivial (by simp [Ab.freeOf]) (small_len (by omega)) (fun o ho Ka Ks ka ks => ?_) ?_
      · simp only [aName_eq, nm_dat, nm_own, dd_dat, dd_own, bb_bool, arg_dat, arg_own, arg_ali, das_nil, das_dat, cont_list, cont_tup, cont_own, cont_ali, contS_own, ownL_own, ownO_own, stor_dat, stor_own, iD_int, ii_int, i1_int, sAddU_int, sAddU_tup, truS_none, truS_bool, truS_int, truS_list, truS_tup, truS_ali, srcOf_list, srcOf_tup, srcOf_ali, Ab.got_some, gZ_nil, gC_cons, gT_tup, onlyDat_dat, notAli_dat, notAli_own, getO_some, fin_none, fin_some, finO_own, callA_nil, callA_dat, callA_ali, argS_none, argS_some, rt_ad, nx_ad, isN_none, isN_tup, notN_none, notN_tup, aNx, aRet, aIf, aSet, aAug, aDrop, aNever, aC, aBin, aBinR, aUn, aTst, aChain, aNot, aAnd, aOr, aIfE, aAndV, aOrV, aNotV, aNil, aCons, aTup, aLst, aCall1, aCallD, aIx, aApp, aExt, aSetIx, aTru, sLen, sAny, sAll, sSum, sList, sTuple, fI, fC, fB, aSeqI, aRng1, aFor, aFrz, gN, aUnp, aLc, aYes, aCall, aRep, aRgT, turn, wipeA, br_true, br_false, List.map_nil, List.map_cons, List.nil_append, List.cons_append, List.replicate, List.getElem?_cons_zero, List.getElem?_cons_succ, List.set_cons_zero, List.set_cons_succ, List.length_cons, List.length_nil, sIn_int, sNotIn_int, sEq_int, sNe_int, sEq_bool, sNe_bool, sEq_str, aSeq]
        refine sNe_of (faith_tup faith_int) (n := 1) (fun a => Nat.le_of_eq (depth_tI a)) (by decide) ?_
        by_cases eo : o = row
        · subst eo
          simp only [decide_true, Bool.not_true, aName_eq, nm_dat, nm_own, dd_dat, dd_own, bb_bool, arg_dat, arg_own, arg_ali, das_nil, das_dat, cont_list, cont_tup, cont_own, cont_ali, contS_own, ownL_own, ownO_own, stor_dat, stor_own, iD_int, ii_int, i1_int, sAddU_int, sAddU_tup, truS_none, truS_bool, truS_int, truS_list, truS_tup, truS_ali, srcOf_list, srcOf_tup, srcOf_ali, Ab.got_some, gZ_nil, gC_cons, gT_tup, onlyDat_dat, notAli_dat, notAli_own, getO_some, fin_none, fin_some, finO_own, callA_nil, callA_dat, callA_ali, argS_none, argS_some, rt_ad, nx_ad, isN_none, isN_tup, notN_none, notN_tup, aNx, aRet, aIf, aSet, aAug, aDrop, aNever, aC, aBin, aBinR, aUn, aTst, aChain, aNot, aAnd, aOr, aIfE, aAndV, aOrV, aNotV, aNil, aCons, aTup, aLst, aCall1, aCallD, aIx, aApp, aExt, aSetIx, aTru, sLen, sAny, sAll, sSum, sList, sTuple, fI, fC, fB, aSeqI, aRng1, aFor, aFrz, gN, aUnp, aLc, aYes, aCall, aRep, aRgT, turn, wipeA, br_true, br_false, List.map_nil, List.map_cons, List.nil_append, List.cons_append, List.replicate, List.getElem?_cons_zero, List.getElem?_cons_succ, List.set_cons_zero, List.set_cons_succ, List.length_cons, List.length_nil, sIn_int, sNotIn_int, sEq_int, sNe_int, sEq_bool, sNe_bool, sEq_str, aSeq]
          exact ks (by simp)
        · have ol := (hr o ho).2
          simp only [decide_eq_false eo, Bool.not_false, tI, aName_eq, nm_dat, nm_own, dd_dat, dd_own, bb_bool, arg_dat, arg_own, arg_ali, das_nil, das_dat, cont_list, cont_tup, cont_own, cont_ali, contS_own, ownL_own, ownO_own, stor_dat, stor_own, iD_int, ii_int, i1_int, sAddU_int, sAddU_tup, truS_none, truS_bool, truS_int, truS_list, truS_tup, truS_ali, srcOf_list, srcOf_tup, srcOf_ali, Ab.got_some, gZ_nil, gC_cons, gT_tup, onlyDat_dat, notAli_dat, notAli_own, getO_some, fin_none, fin_some, finO_own, callA_nil, callA_dat, callA_ali, argS_none, argS_some, rt_ad, nx_ad, isN_none, isN_tup, notN_none, notN_tup, aNx, aRet, aIf, aSet, aAug, aDrop, aNever, aC, aBin, aBinR, aUn, aTst, aChain, aNot, aAnd, aOr, aIfE, aAndV, aOrV, aNotV, aNil, aCons, aTup, aLst, aCall1, aCallD, aIx, aApp, aExt, aSetIx, aTru, sLen, sAny, sAll, sSum, sList, sTuple, fI, fC, fB, aSeqI, aRng1, aFor, aFrz, gN, aUnp, aLc, aYes, aCall, aRep, aRgT, turn, wipeA, br_true, br_false, List.map_nil, List.map_cons, List.nil_append, List.cons_append, List.replicate, List.getElem?_cons_zero, List.getElem?_cons_succ, List.set_cons_zero, List.set_cons_succ, List.length_cons, List.length_nil, sIn_int, sNotIn_int, sEq_int, sNe_int, sEq_bool, sNe_bool, sEq_str, aSeq]
          refine lc_pure (enc := PyData.int) (fun x => !decide (x ∈ row)) PyData.int trivial (by simp [Ab.freeOf]) (small_len (by omega)) (fun x hx Kb Ks2 kb ks2 => ?_) ?_
          · simp only [aName_eq, nm_dat, nm_own, dd_dat, dd_own, bb_bool, arg_dat, arg_own, arg_ali, das_nil, das_dat, cont_list, cont_tup, cont_own, cont_ali, contS_own, ownL_own, ownO_own, stor_dat, stor_own, iD_int, ii_int, i1_int, sAddU_int, sAddU_tup, truS_none, truS_bool, truS_int, truS_list, truS_tup, truS_ali, srcOf_list, srcOf_tup, srcOf_ali, Ab.got_some, gZ_nil, gC_cons, gT_tup, onlyDat_dat, notAli_dat, notAli_own, getO_some, fin_none, fin_some, finO_own, callA_nil, callA_dat, callA_ali, argS_none, argS_some, rt_ad, nx_ad, isN_none, isN_tup, notN_none, notN_tup, aNx, aRet, aIf, aSet, aAug, aDrop, aNever, aC, aBin, aBinR, aUn, aTst, aChain, aNot, aAnd, aOr, aIfE, aAndV, aOrV, aNotV, aNil, aCons, aTup, aLst, aCall1, aCallD, aIx, aApp, aExt, aSetIx, aTru, sLen, sAny, sAll, sSum, sList, sTuple, fI, fC, fB, aSeqI, aRng1, aFor, aFrz, gN, aUnp, aLc, aYes, aCall, aRep, aRgT, turn, wipeA, br_true, br_false, List.map_nil, List.map_cons, List.nil_append, List.cons_append, List.replicate, List.getElem?_cons_zero, List.getElem?_cons_succ, List.set_cons_zero, List.set_cons_succ, List.length_cons, List.length_nil, sIn_int, sNotIn_int, sEq_int, sNe_int, sEq_bool, sNe_bool, sEq_str, aSeq]
            exact ⟨kb, ks2⟩
          · simp only [List.length_map, aName_eq, nm_dat, nm_own, dd_dat, dd_own, bb_bool, arg_dat, arg_own, arg_ali, das_nil, das_dat, cont_list, cont_tup, cont_own, cont_ali, contS_own, ownL_own, ownO_own, stor_dat, stor_own, iD_int, ii_int, i1_int, sAddU_int, sAddU_tup, truS_none, truS_bool, truS_int, truS_list, truS_tup, truS_ali, srcOf_list, srcOf_tup, srcOf_ali, Ab.got_some, gZ_nil, gC_cons, gT_tup, onlyDat_dat, notAli_dat, notAli_own, getO_some, fin_none, fin_some, finO_own, callA_nil, callA_dat, callA_ali, argS_none, argS_some, rt_ad, nx_ad, isN_none, isN_tup, notN_none, notN_tup, aNx, aRet, aIf, aSet, aAug, aDrop, aNever, aC, aBin, aBinR, aUn, aTst, aChain, aNot, aAnd, aOr, aIfE, aAndV, aOrV, aNotV, aNil, aCons, aTup, aLst, aCall1, aCallD, aIx, aApp, aExt, aSetIx, aTru, sLen, sAny, sAll, sSum, sList, sTuple, fI, fC, fB, aSeqI, aRng1, aFor, aFrz, gN, aUnp, aLc, aYes, aCall, aRep, aRgT, turn, wipeA, br_true, br_false, List.map_nil, List.map_cons, List.nil_append, List.cons_append, List.replicate, List.getElem?_cons_zero, List.getElem?_cons_succ, List.set_cons_zero, List.set_cons_succ, List.length_cons, List.length_nil, sIn_int, sNotIn_int, sEq_int, sNe_int, sEq_bool, sNe_bool, sEq_str, aSeq]
            have ew : decide (((o.filter fun x => !decide (x ∈ row)).length : Int) = 0) = within o row := by
              rw [Bool.eq_iff_iff, decide_eq_true_eq, within_iff]
              constructor
              · intro h x hx
                have h : (o.filter fun x => !decide (x ∈ row)) = [] := List.eq_nil_of_length_eq_zero (by omega)
                have := List.filter_eq_nil_iff.mp h x hx
                simpa using this
              · intro h
                rw [List.filter_eq_nil_iff.mpr fun x hx => by simp [h x hx]]
                rfl
            rw [ew]
            refine ⟨fun hh => ka ?_, fun hh => ks ?_⟩
            · simp [eo, hh]
            · simp [hh]
      · simp only [List.length_map, aName_eq, nm_dat, nm_own, dd_dat, dd_own, bb_bool, arg_dat, arg_own, arg_ali, das_nil, das_dat, cont_list, cont_tup, cont_own, cont_ali, contS_own, ownL_own, ownO_own, stor_dat, stor_own, iD_int, ii_int, i1_int, sAddU_int, sAddU_tup, truS_none, truS_bool, truS_int, truS_list, truS_tup, truS_ali, srcOf_list, srcOf_tup, srcOf_ali, Ab.got_some, gZ_nil, gC_cons, gT_tup, onlyDat_dat, notAli_dat, notAli_own, getO_some, fin_none, fin_some, finO_own, callA_nil, callA_dat, callA_ali, argS_none, argS_some, rt_ad, nx_ad, isN_none, isN_tup, notN_none, notN_tup, aNx, aRet, aIf, aSet, aAug, aDrop, aNever, aC, aBin, aBinR, aUn, aTst, aChain, aNot, aAnd, aOr, aIfE, aAndV, aOrV, aNotV, aNil, aCons, aTup, aLst, aCall1, aCallD, aIx, aApp, aExt, aSetIx, aTru, sLen, sAny, sAll, sSum, sList, sTuple, fI, fC, fB, aSeqI, aRng1, aFor, aFrz, gN, aUnp, aLc, aYes, aCall, aRep, aRgT, turn, wipeA, br_true, br_false, List.map_nil, List.map_cons, List.nil_append, List.cons_append, List.replicate, List.getElem?_cons_zero, List.getElem?_cons_succ, List.set_cons_zero, List.set_cons_succ, List.length_cons, List.length_nil, sIn_int, sNotIn_int, sEq_int, sNe_int, sEq_bool, sNe_bool, sEq_str, aSeq]
        have ei : decide (((rows.filter fun o => !decide (o = row) && within o row).length : Int) = 0) = isl row := by
          rw [Bool.eq_iff_iff, decide_eq_true_eq]
          show _ ↔ List.isEmpty _ = true
          rw [List.isEmpty_iff]
          exact ⟨fun h => List.eq_nil_of_length_eq_zero (by omega), fun h => by rw [h]; rfl⟩
        rw [ei]
        have hz : (pre.filter isl).length ≤ 64 := by
          have g1 := List.length_filter_le isl pre
          have g2 := congrArg List.length e
          rw [List.length_append, List.length_cons] at g2
          omega
        refine ⟨fun hh => ⟨small_len (by omega), kn _ ⟨some (.dat (tI row)), trivial, ?_⟩⟩, fun hh => kn _ ⟨some (.dat (tI row)), trivial, ?_⟩⟩
        · rw [List.filter_append, List.filter_cons_of_pos hh, List.map_append]
          rfl
        · rw [List.filter_append, List.filter_cons_of_neg (by rw [hh]; decide), List.map_append, List.filter_nil, List.map_nil, List.append_nil]
    · rintro ρ ⟨x2, n2, rfl⟩
      simp only [aName_eq, nm_dat, nm_own, dd_dat, dd_own, bb_bool, arg_dat, arg_own, arg_ali, das_nil, das_dat, cont_list, cont_tup, cont_own, cont_ali, contS_own, ownL_own, ownO_own, stor_dat, stor_own, iD_int, ii_int, i1_int, sAddU_int, sAddU_tup, truS_none, truS_bool, truS_int, truS_list, truS_tup, truS_ali, srcOf_list, srcOf_tup, srcOf_ali, Ab.got_some, gZ_nil, gC_cons, gT_tup, onlyDat_dat, notAli_dat, notAli_own, getO_some, fin_none, fin_some, finO_own, callA_nil, callA_dat, callA_ali, argS_none, argS_some, rt_ad, nx_ad, isN_none, isN_tup, notN_none, notN_tup, aNx, aRet, aIf, aSet, aAug, aDrop, aNever, aC, aBin, aBinR, aUn, aTst, aChain, aNot, aAnd, aOr, aIfE, aAndV, aOrV, aNotV, aNil, aCons, aTup, aLst, aCall1, aCallD, aIx, aApp, aExt, aSetIx, aTru, sLen, sAny, sAll, sSum, sList, sTuple, fI, fC, fB, aSeqI, aRng1, aFor, aFrz, gN, aUnp, aLc, aYes, aCall, aRep, aRgT, turn, wipeA, br_true, br_false, List.map_nil, List.map_cons, List.nil_append, List.cons_append, List.replicate, List.getElem?_cons_zero, List.getElem?_cons_succ, List.set_cons_zero, List.set_cons_succ, List.length_cons, List.length_nil, sIn_int, sNotIn_int, sEq_int, sNe_int, sEq_bool, sNe_bool, sEq_str, aSeq]
      have hz : (rows1.filter isl).length ≤ 64 := Nat.le_trans (List.length_filter_le _ _) hlen1
      refine lc_map (enc := tI) keyS rfl ⟨n2, by simp, trivial⟩ (small_len (by omega)) (fun r hr Ka Ks ka => ?_) ?_
      · simp only [List.length_map, aName_eq, nm_dat, nm_own, dd_dat, dd_own, bb_bool, arg_dat, arg_own, arg_ali, das_nil, das_dat, cont_list, cont_tup, cont_own, cont_ali, contS_own, ownL_own, ownO_own, stor_dat, stor_own, iD_int, ii_int, i1_int, sAddU_int, sAddU_tup, truS_none, truS_bool, truS_int, truS_list, truS_tup, truS_ali, srcOf_list, srcOf_tup, srcOf_ali, Ab.got_some, gZ_nil, gC_cons, gT_tup, onlyDat_dat, notAli_dat, notAli_own, getO_some, fin_none, fin_some, finO_own, callA_nil, callA_dat, callA_ali, argS_none, argS_some, rt_ad, nx_ad, isN_none, isN_tup, notN_none, notN_tup, aNx, aRet, aIf, aSet, aAug, aDrop, aNever, aC, aBin, aBinR, aUn, aTst, aChain, aNot, aAnd, aOr, aIfE, aAndV, aOrV, aNotV, aNil, aCons, aTup, aLst, aCall1, aCallD, aIx, aApp, aExt, aSetIx, aTru, sLen, sAny, sAll, sSum, sList, sTuple, fI, fC, fB, aSeqI, aRng1, aFor, aFrz, gN, aUnp, aLc, aYes, aCall, aRep, aRgT, turn, wipeA, br_true, br_false, List.map_nil, List.map_cons, List.nil_append, List.cons_append, List.replicate, List.getElem?_cons_zero, List.getElem?_cons_succ, List.set_cons_zero, List.set_cons_succ, List.length_cons, List.length_nil, sIn_int, sNotIn_int, sEq_int, sNe_int, sEq_bool, sNe_bool, sEq_str, aSeq]
        exact ⟨small_le (by decide), ka⟩
      · obtain ⟨s1, s2, s3⟩ := keyS_ok (rows1.filter isl)
        simp only [sSorted, aName_eq, nm_dat, nm_own, dd_dat, dd_own, bb_bool, arg_dat, arg_own, arg_ali, das_nil, das_dat, cont_list, cont_tup, cont_own, cont_ali, contS_own, ownL_own, ownO_own, stor_dat, stor_own, iD_int, ii_int, i1_int, sAddU_int, sAddU_tup, truS_none, truS_bool, truS_int, truS_list, truS_tup, truS_ali, srcOf_list, srcOf_tup, srcOf_ali, Ab.got_some, gZ_nil, gC_cons, gT_tup, onlyDat_dat, notAli_dat, notAli_own, getO_some, fin_none, fin_some, finO_own, callA_nil, callA_dat, callA_ali, argS_none, argS_some, rt_ad, nx_ad, isN_none, isN_tup, notN_none, notN_tup, aNx, aRet, aIf, aSet, aAug, aDrop, aNever, aC, aBin, aBinR, aUn, aTst, aChain, aNot, aAnd, aOr, aIfE, aAndV, aOrV, aNotV, aNil, aCons, aTup, aLst, aCall1, aCallD, aIx, aApp, aExt, aSetIx, aTru, sLen, sAny, sAll, sSum, sList, sTuple, fI, fC, fB, aSeqI, aRng1, aFor, aFrz, gN, aUnp, aLc, aYes, aCall, aRep, aRgT, turn, wipeA, br_true, br_false, List.map_nil, List.map_cons, List.nil_append, List.cons_append, List.replicate, List.getElem?_cons_zero, List.getElem?_cons_succ, List.set_cons_zero, List.set_cons_succ, List.length_cons, List.length_nil, sIn_int, sNotIn_int, sEq_int, sNe_int, sEq_bool, sNe_bool, sEq_str, aSeq]
        refine ⟨trivial, s1, s2, s3, ?_⟩
        rw [keyS_sort]
        refine lc_map (enc := keyS) (fun r => tI r) trivial ⟨by simp, by simp, n2, by simp, trivial⟩ (small_len (by rw [List.length_mergeSort]; omega)) (fun r hr Ka Ks ka => ?_) ?_
        · simp only [keyS, aName_eq, nm_dat, nm_own, dd_dat, dd_own, bb_bool, arg_dat, arg_own, arg_ali, das_nil, das_dat, cont_list, cont_tup, cont_own, cont_ali, contS_own, ownL_own, ownO_own, stor_dat, stor_own, iD_int, ii_int, i1_int, sAddU_int, sAddU_tup, truS_none, truS_bool, truS_int, truS_list, truS_tup, truS_ali, srcOf_list, srcOf_tup, srcOf_ali, Ab.got_some, gZ_nil, gC_cons, gT_tup, onlyDat_dat, notAli_dat, notAli_own, getO_some, fin_none, fin_some, finO_own, callA_nil, callA_dat, callA_ali, argS_none, argS_some, rt_ad, nx_ad, isN_none, isN_tup, notN_none, notN_tup, aNx, aRet, aIf, aSet, aAug, aDrop, aNever, aC, aBin, aBinR, aUn, aTst, aChain, aNot, aAnd, aOr, aIfE, aAndV, aOrV, aNotV, aNil, aCons, aTup, aLst, aCall1, aCallD, aIx, aApp, aExt, aSetIx, aTru, sLen, sAny, sAll, sSum, sList, sTuple, fI, fC, fB, aSeqI, aRng1, aFor, aFrz, gN, aUnp, aLc, aYes, aCall, aRep, aRgT, turn, wipeA, br_true, br_false, List.map_nil, List.map_cons, List.nil_append, List.cons_append, List.replicate, List.getElem?_cons_zero, List.getElem?_cons_succ, List.set_cons_zero, List.set_cons_succ, List.length_cons, List.length_nil, sIn_int, sNotIn_int, sEq_int, sNe_int, sEq_bool, sNe_bool, sEq_str, aSeq]
          exact ⟨trivial, ka⟩
        · refine k _ ((List.mergeSort_perm _ _).nodup_iff.mpr (nd.filter _)) (fun r => ?_) (List.pairwise_mergeSort leK_trans leK_total _)
          rw [List.mem_mergeSort, List.mem_filter, me r]
          refine and_congr Iff.rfl ?_
          show List.isEmpty _ = true ↔ _
          rw [List.isEmpty_iff, List.filter_eq_nil_iff]
          refine ⟨fun h o ho hne => ?_, fun h o ho => ?_⟩
          · have := h o ho
            simpa [hne] using this
          · by_cases eo : o = r
            · simp [eo]
            · simp [h o ho eo]
end
end K75

set_option maxHeartbeats 4000000
namespace K75
open PySem PySem.Spec PyProof.Rows L2 Ab
theorem isN_stale {W R : List (List Int)} {k : PyData → Prop} : sIsN (eStale W R) .none k = k (.bool (meetB W R)) := by
  cases h : meetB W R with
  | true => rw [stale_none h, isN_none]
  | false =>
    obtain ⟨a, b, _, _, _, e⟩ := stale_some h
    rw [e, isN_tup]
theorem notN_stale {W R : List (List Int)} {k : PyData → Prop} : sNotN (eStale W R) .none k = k (.bool (!meetB W R)) := by
  cases h : meetB W R with
  | true => rw [stale_none h, notN_none]; rfl
  | false =>
    obtain ⟨a, b, _, _, _, e⟩ := stale_some h
    rw [e, notN_tup]; rfl
section
variable {P : Program} {w : World} {K : PySem.W.Frag} {mg : Str → Option Value} {base : Heap}
theorem ok_law (D : Defs K mg) : FnOk P w K mg base CX0 4 D.f_law D.fd_law ["script"] (toSp K sp_law) := by
  have G__law_begin : FnOk P w K mg base CX0 1 D.f__law_begin D.fd__law_begin ["script"] (toSp K sp__law_begin) := ok__law_begin D
  have G__law_take : FnOk P w K mg base CX0 1 D.f__law_take D.fd__law_take ["d", "many"] (toSp K sp__law_take) := ok__law_take D
  have G__law_set : FnOk P w K mg base CX0 2 D.f__law_set D.fd__law_set ["d", "places"] (toSp K sp__law_set) := ok__law_set D
  have G__law_meet : FnOk P w K mg base CX0 1 D.f__law_meet D.fd__law_meet ["one", "other"] (toSp K sp__law_meet) := ok__law_meet D
  have G_stale_run : FnOk P w K mg base CX0 2 D.f_stale_run D.fd_stale_run ["places", "writes", "reads"] (toSp K sp_stale_run) := ok_stale_run D
  have G_play : FnOk P w K mg base CX0 1 D.f_play D.fd_play ["places", "run"] (toSp K sp_play) := ok_play D
  have G_clash : FnOk P w K mg base CX0 2 D.f_clash D.fd_clash ["places", "writes", "reads"] (toSp K sp_clash) := ok_clash D
  have G_dual : FnOk P w K mg base CX0 2 D.f_dual D.fd_dual ["places", "rows"] (toSp K sp_dual) := ok_dual D
  have G__law_least : FnOk P w K mg base CX0 1 D.f__law_least D.fd__law_least ["rows"] (toSp K sp__law_least) := ok__law_least D
  have G_fatal : FnOk P w K mg base CX0 2 D.f_fatal D.fd_fatal ["places", "rows"] (toSp K sp_fatal) := ok_fatal D
  have G_survives : FnOk P w K mg base CX0 3 D.f_survives D.fd_survives ["places", "rows"] (toSp K sp_survives) := ok_survives D
  have G_majorities : FnOk P w K mg base CX0 2 D.f_majorities D.fd_majorities ["weights", "need"] (toSp K sp_majorities) := ok_majorities D
  have G_busiest : FnOk P w K mg base CX0 2 D.f_busiest D.fd_busiest ["places", "rows", "counts"] (toSp K sp_busiest) := ok_busiest D
  refine ok_def D.F_law sc_law (fun oo ds Kc h => ?_) (fun cdv A outer s H E hr =>
      (ss_cons (s_set (ps_set (i := 1) sc_law.nd rfl (.inr rfl) (e_call G__law_begin (hr.mono (by decide)) (by rfl) D.g__law_begin D.F__law_begin.kp D.n__law_begin (x_cons (e_name (pv 0)) x_nil))))
      (ss_cons (s_set (ps_set (i := 2) sc_law.nd rfl (.inr rfl) (e_op op_addU dr_addU e_int (e_call G__law_take (hr.mono (by decide)) (by rfl) D.g__law_take D.F__law_take.kp D.n__law_take (x_cons (e_name (pv 1)) (x_cons e_int x_nil))))))
      (ss_cons (s_set (ps_set (i := 3) sc_law.nd rfl (.inr rfl) (e_callTy call_tuple_of dc_tuple (by rfl) D.b_tuple boot_tuple (e_lc (own := [("k", 4)]) rfl sc_law.nd (i_rng1 (by rfl) D.b_range (e_op op_addU dr_addU e_int (e_call G__law_take (hr.mono (by decide)) (by rfl) D.g__law_take D.F__law_take.kp D.n__law_take (x_cons (e_name (pv 1)) (x_cons e_int x_nil))))) (blkOk_by (by kernel_rfl)) (fun _ _ _ _ _ => (g_name (pg_name (i := 4) sc_law.nd rfl (by first | exact Or.inl rfl | exact Or.inr rfl)))) (fun _ _ _ _ _ => ts_nil) (fun _ _ _ _ _ => (e_call G__law_set (hr.mono (by decide)) (by rfl) D.g__law_set D.F__law_set.kp D.n__law_set (x_cons (e_name (pv 1)) (x_cons (e_name (pv 2)) x_nil))))))))
      (ss_cons (s_set (ps_set (i := 5) sc_law.nd rfl (.inr rfl) (e_callTy call_tuple_of dc_tuple (by rfl) D.b_tuple boot_tuple (e_lc (own := [("k", 4)]) rfl sc_law.nd (i_rng1 (by rfl) D.b_range (e_op op_addU dr_addU e_int (e_call G__law_take (hr.mono (by decide)) (by rfl) D.g__law_take D.F__law_take.kp D.n__law_take (x_cons (e_name (pv 1)) (x_cons e_int x_nil))))) (blkOk_by (by kernel_rfl)) (fun _ _ _ _ _ => (g_name (pg_name (i := 4) sc_law.nd rfl (by first | exact Or.inl rfl | exact Or.inr rfl)))) (fun _ _ _ _ _ => ts_nil) (fun _ _ _ _ _ => (e_call G__law_set (hr.mono (by decide)) (by rfl) D.g__law_set D.F__law_set.kp D.n__law_set (x_cons (e_name (pv 1)) (x_cons (e_name (pv 2)) x_nil))))))))
      (ss_cons (s_set (ps_set (i := 6) sc_law.nd rfl (.inl rfl) (e_cmp (op_eqP hr.units) dr_eq (e_callB call_len_seq dc_len (by rfl) D.b_len PySem.boot_len (e_lc (own := [("one", 7)]) rfl sc_law.nd (i_seq (e_name (pv 3))) (blkOk_by (by kernel_rfl)) (fun _ _ _ _ _ => (g_name (pg_name (i := 7) sc_law.nd rfl (by first | exact Or.inl rfl | exact Or.inr rfl)))) (fun _ _ _ _ _ => (ts_one (t_cmp op_gt dr_b (e_callB call_len_seq dc_len (by rfl) D.b_len PySem.boot_len (e_lc (own := [("other", 8)]) rfl sc_law.nd (i_seq (e_name (pv 5))) (blkOk_by (by kernel_rfl)) (fun _ _ _ _ _ => (g_name (pg_name (i := 8) sc_law.nd rfl (by first | exact Or.inl rfl | exact Or.inr rfl)))) (fun _ _ _ _ _ => (ts_one (t_not (t_truth (e_call G__law_meet (hr.mono (by decide)) (by rfl) D.g__law_meet D.F__law_meet.kp D.n__law_meet (x_cons (e_name (pv 7)) (x_cons (e_name (pv 8)) x_nil))))))) (fun _ _ _ _ _ => (e_name (pv 8))))) e_int (nomark _)))) (fun _ _ _ _ _ => e_int))) e_int (nomark _))))
      (ss_cons (s_set (ps_set (i := 9) sc_law.nd rfl (.inl rfl) (e_call G_stale_run (hr.mono (by decide)) (by rfl) D.g_stale_run D.F_stale_run.kp D.n_stale_run (x_cons (e_name (pv 2)) (x_cons (e_name (pv 3)) (x_cons (e_name (pv 5)) x_nil))))))
      (ss_cons (s_if (t_cmp (op_neP hr.units) dr_ne (e_cmp op_isN dr_isN (e_name (pv 9)) e_non (nomark _)) (e_name (pv 6)) (nomark _)) (ss_one (s_ret e_bl)) ss_nil)
      (ss_cons (s_if (t_w (w_andC (t_cmp op_notN dr_notN (e_name (pv 9)) e_non (nomark _)) (w_and1 (t_w (w_orC (t_cmp (op_neP hr.units) dr_ne (e_callB call_len_seq dc_len (by rfl) D.b_len PySem.boot_len (e_name (pv 9))) e_int (nomark _)) (w_or1 (t_cmp (op_eqP hr.units) dr_eq (e_ix (e_ix (e_call G_play (hr.mono (by decide)) (by rfl) D.g_play D.F_play.kp D.n_play (x_cons (e_name (pv 2)) (x_cons (e_name (pv 9)) x_nil))) e_int) e_int) (e_ix (e_ix (e_call G_play (hr.mono (by decide)) (by rfl) D.g_play D.F_play.kp D.n_play (x_cons (e_name (pv 2)) (x_cons (e_name (pv 9)) x_nil))) e_int) e_int) (nomark _)))))))) (ss_one (s_ret e_bl)) ss_nil)
      (ss_cons (s_set (ps_set (i := 10) sc_law.nd rfl (.inl rfl) (e_lst x_nil)))
      (ss_cons (s_for PassesOwn.never rfl (i_rng1 (by rfl) D.b_range (e_call G__law_take (hr.mono (by decide)) (by rfl) D.g__law_take D.F__law_take.kp D.n__law_take (x_cons (e_name (pv 1)) (x_cons e_int x_nil)))) (g_name (pg_name (i := 4) sc_law.nd rfl (.inl rfl))) (ss_one (s_app (pe_append (pv 10) (e_ifExp (t_cmp (op_eqP hr.units) dr_eq (e_call G__law_take (hr.mono (by decide)) (by rfl) D.g__law_take D.F__law_take.kp D.n__law_take (x_cons (e_name (pv 1)) (x_cons e_int x_nil))) e_int (nomark _)) (e_tup (x_cons e_str (x_cons (e_ix (e_name (pv 3)) (e_call G__law_take (hr.mono (by decide)) (by rfl) D.g__law_take D.F__law_take.kp D.n__law_take (x_cons (e_name (pv 1)) (x_cons (e_callB call_len_seq dc_len (by rfl) D.b_len PySem.boot_len (e_name (pv 3))) x_nil)))) x_nil))) (e_tup (x_cons e_str (x_cons (e_ix (e_name (pv 5)) (e_call G__law_take (hr.mono (by decide)) (by rfl) D.g__law_take D.F__law_take.kp D.n__law_take (x_cons (e_name (pv 1)) (x_cons (e_callB call_len_seq dc_len (by rfl) D.b_len PySem.boot_len (e_name (pv 5))) x_nil)))) x_nil))))))))
      (ss_cons (s_set (ps_set (i := 11) sc_law.nd rfl (.inl rfl) (e_call G_play (hr.mono (by decide)) (by rfl) D.g_play D.F_play.kp D.n_play (x_cons (e_name (pv 2)) (x_cons (e_callTy call_tuple_of dc_tuple (by rfl) D.b_tuple boot_tuple (e_name (pv 10))) x_nil)))))
      (ss_cons (s_if (t_w (w_andC (t_truth (e_name (pv 6))) (w_and1 (t_cmp op_gt dr_b (e_callB call_len_seq dc_len (by rfl) D.b_len PySem.boot_len (e_lc (own := [("read", 12), ("last", 13)]) rfl sc_law.nd (i_seq (e_name (pv 11))) (blkOk_by (by kernel_rfl)) (fun _ _ _ _ _ => (g_tup (pg_tup (n := 2) rfl (gs_cons (g_name (pg_name (i := 12) sc_law.nd rfl (by first | exact Or.inl rfl | exact Or.inr rfl))) (gs_cons (g_name (pg_name (i := 13) sc_law.nd rfl (by first | exact Or.inl rfl | exact Or.inr rfl))) gs_nil))))) (fun _ _ _ _ _ => (ts_one (t_cmp (op_neP hr.units) dr_ne (e_name (pv 12)) (e_name (pv 13)) (nomark _)))) (fun _ _ _ _ _ => e_int))) e_int (nomark _))))) (ss_one (s_ret e_bl)) ss_nil)
      (ss_cons (s_if (t_cmp op_gt dr_b (e_callB call_len_seq dc_len (by rfl) D.b_len PySem.boot_len (e_lc (own := [("read", 12), ("last", 13)]) rfl sc_law.nd (i_seq (e_name (pv 11))) (blkOk_by (by kernel_rfl)) (fun _ _ _ _ _ => (g_tup (pg_tup (n := 2) rfl (gs_cons (g_name (pg_name (i := 12) sc_law.nd rfl (by first | exact Or.inl rfl | exact Or.inr rfl))) (gs_cons (g_name (pg_name (i := 13) sc_law.nd rfl (by first | exact Or.inl rfl | exact Or.inr rfl))) gs_nil))))) (fun _ _ _ _ _ => (ts_one (t_cmp op_gt dr_b (e_name (pv 12)) (e_name (pv 13)) (nomark _)))) (fun _ _ _ _ _ => e_int))) e_int (nomark _)) (ss_one (s_ret e_bl)) ss_nil)
      (ss_cons (s_set (ps_set (i := 14) sc_law.nd rfl (.inl rfl) (e_call G_clash (hr.mono (by decide)) (by rfl) D.g_clash D.F_clash.kp D.n_clash (x_cons (e_name (pv 2)) (x_cons (e_name (pv 3)) (x_cons (e_name (pv 5)) x_nil))))))
      (ss_cons (s_set (ps_set (i := 15) sc_law.nd rfl (.inl rfl) (e_cmp (op_eqP hr.units) dr_eq (e_callB call_len_seq dc_len (by rfl) D.b_len PySem.boot_len (e_lc (own := [("one", 7)]) rfl sc_law.nd (i_seq (e_name (pv 3))) (blkOk_by (by kernel_rfl)) (fun _ _ _ _ _ => (g_name (pg_name (i := 7) sc_law.nd rfl (by first | exact Or.inl rfl | exact Or.inr rfl)))) (fun _ _ _ _ _ => (ts_one (t_cmp op_gt dr_b (e_callB call_len_seq dc_len (by rfl) D.b_len PySem.boot_len (e_lc (own := [("other", 8)]) rfl sc_law.nd (i_seq (e_name (pv 3))) (blkOk_by (by kernel_rfl)) (fun _ _ _ _ _ => (g_name (pg_name (i := 8) sc_law.nd rfl (by first | exact Or.inl rfl | exact Or.inr rfl)))) (fun _ _ _ _ _ => (ts_one (t_not (t_truth (e_call G__law_meet (hr.mono (by decide)) (by rfl) D.g__law_meet D.F__law_meet.kp D.n__law_meet (x_cons (e_name (pv 7)) (x_cons (e_name (pv 8)) x_nil))))))) (fun _ _ _ _ _ => (e_name (pv 8))))) e_int (nomark _)))) (fun _ _ _ _ _ => e_int))) e_int (nomark _))))
      (ss_cons (s_if (t_w (w_orC (t_cmp (op_neP hr.units) dr_ne (e_cmp op_isN dr_isN (e_name (pv 14)) e_non (nomark _)) (e_and (e_name (pv 6)) (e_one (e_name (pv 15)))) (nomark _)) (w_or1 (t_w (w_andC (t_cmp op_notN dr_notN (e_name (pv 14)) e_non (nomark _)) (w_and1 (t_cmp (op_neP hr.units) dr_ne (e_cmp (op_eqP hr.units) dr_eq (e_ix (e_name (pv 14)) e_int) e_str (nomark _)) (e_not (e_name (pv 6))) (nomark _)))))))) (ss_one (s_ret e_bl)) ss_nil)
      (ss_cons (s_set (ps_set (i := 16) sc_law.nd rfl (.inr rfl) (e_call G_dual (hr.mono (by decide)) (by rfl) D.g_dual D.F_dual.kp D.n_dual (x_cons (e_name (pv 2)) (x_cons (e_name (pv 3)) x_nil)))))
      (ss_cons (s_if (t_w (w_orC (t_cmp (op_neP hr.units) dr_ne (e_callTy call_list_of dc_list (by rfl) D.b_list boot_list (e_call G_dual (hr.mono (by decide)) (by rfl) D.g_dual D.F_dual.kp D.n_dual (x_cons (e_name (pv 2)) (x_cons (e_name (pv 16)) x_nil)))) (e_call G__law_least (hr.mono (by decide)) (by rfl) D.g__law_least D.F__law_least.kp D.n__law_least (x_cons (e_name (pv 3)) x_nil)) (nomark _)) (w_or1 (t_cmp (op_neP hr.units) dr_ne (e_callTy call_list_of dc_list (by rfl) D.b_list boot_list (e_name (pv 16))) (e_call G__law_least (hr.mono (by decide)) (by rfl) D.g__law_least D.F__law_least.kp D.n__law_least (x_cons (e_name (pv 16)) x_nil)) (nomark _))))) (ss_one (s_ret e_bl)) ss_nil)
      (ss_cons (s_if (t_cmp op_gt dr_b (e_callB call_len_seq dc_len (by rfl) D.b_len PySem.boot_len (e_lc (own := [("one", 7)]) rfl sc_law.nd (i_seq (e_name (pv 16))) (blkOk_by (by kernel_rfl)) (fun _ _ _ _ _ => (g_name (pg_name (i := 7) sc_law.nd rfl (by first | exact Or.inl rfl | exact Or.inr rfl)))) (fun _ _ _ _ _ => (ts_one (t_cmp op_gt dr_b (e_callB call_len_seq dc_len (by rfl) D.b_len PySem.boot_len (e_lc (own := [("other", 8)]) rfl sc_law.nd (i_seq (e_name (pv 3))) (blkOk_by (by kernel_rfl)) (fun _ _ _ _ _ => (g_name (pg_name (i := 8) sc_law.nd rfl (by first | exact Or.inl rfl | exact Or.inr rfl)))) (fun _ _ _ _ _ => (ts_one (t_not (t_truth (e_call G__law_meet (hr.mono (by decide)) (by rfl) D.g__law_meet D.F__law_meet.kp D.n__law_meet (x_cons (e_name (pv 7)) (x_cons (e_name (pv 8)) x_nil))))))) (fun _ _ _ _ _ => (e_name (pv 8))))) e_int (nomark _)))) (fun _ _ _ _ _ => e_int))) e_int (nomark _)) (ss_one (s_ret e_bl)) ss_nil)
      (ss_cons (s_set (ps_set (i := 17) sc_law.nd rfl (.inl rfl) (e_call G_fatal (hr.mono (by decide)) (by rfl) D.g_fatal D.F_fatal.kp D.n_fatal (x_cons (e_name (pv 2)) (x_cons (e_name (pv 3)) x_nil)))))
      (ss_cons (s_if (t_w (w_orC (t_cmp (op_neP hr.units) dr_ne (e_name (pv 17)) (e_ix (e_name (pv 16)) e_int) (nomark _)) (w_or1 (t_cmp (op_neP hr.units) dr_ne (e_call G_survives (hr.mono (by decide)) (by rfl) D.g_survives D.F_survives.kp D.n_survives (x_cons (e_name (pv 2)) (x_cons (e_name (pv 3)) x_nil))) (e_op op_sub dr_i (e_callB call_len_seq dc_len (by rfl) D.b_len PySem.boot_len (e_name (pv 17))) e_int) (nomark _))))) (ss_one (s_ret e_bl)) ss_nil)
      (ss_cons (s_if (t_w (w_andC (t_truth (e_name (pv 6))) (w_and1 (t_cmp op_gt dr_b (e_callB call_len_seq dc_len (by rfl) D.b_len PySem.boot_len (e_lc (own := [("row", 18)]) rfl sc_law.nd (i_seq (e_name (pv 5))) (blkOk_by (by kernel_rfl)) (fun _ _ _ _ _ => (g_name (pg_name (i := 18) sc_law.nd rfl (by first | exact Or.inl rfl | exact Or.inr rfl)))) (fun _ _ _ _ _ => (ts_one (t_cmp (op_eqP hr.units) dr_eq (e_callB call_len_seq dc_len (by rfl) D.b_len PySem.boot_len (e_lc (own := [("one", 7)]) rfl sc_law.nd (i_seq (e_name (pv 16))) (blkOk_by (by kernel_rfl)) (fun _ _ _ _ _ => (g_name (pg_name (i := 7) sc_law.nd rfl (by first | exact Or.inl rfl | exact Or.inr rfl)))) (fun _ _ _ _ _ => (ts_one (t_cmp (op_eqP hr.units) dr_eq (e_callB call_len_seq dc_len (by rfl) D.b_len PySem.boot_len (e_lc (own := [("k", 4)]) rfl sc_law.nd (i_seq (e_name (pv 7))) (blkOk_by (by kernel_rfl)) (fun _ _ _ _ _ => (g_name (pg_name (i := 4) sc_law.nd rfl (by first | exact Or.inl rfl | exact Or.inr rfl)))) (fun _ _ _ _ _ => (ts_one (t_cmpS (op_notInP hr.units) dr_notIn (e_name (pv 4)) (e_name (pv 18))))) (fun _ _ _ _ _ => (e_name (pv 4))))) e_int (nomark _)))) (fun _ _ _ _ _ => (e_name (pv 7))))) e_int (nomark _)))) (fun _ _ _ _ _ => (e_name (pv 18))))) e_int (nomark _))))) (ss_one (s_ret e_bl)) ss_nil)
      (ss_cons (s_set (ps_set (i := 19) sc_law.nd rfl (.inr rfl) (e_callTy call_tuple_of dc_tuple (by rfl) D.b_tuple boot_tuple (e_lc (own := [("k", 4)]) rfl sc_law.nd (i_rng1 (by rfl) D.b_range (e_name (pv 2))) (blkOk_by (by kernel_rfl)) (fun _ _ _ _ _ => (g_name (pg_name (i := 4) sc_law.nd rfl (by first | exact Or.inl rfl | exact Or.inr rfl)))) (fun _ _ _ _ _ => ts_nil) (fun _ _ _ _ _ => (e_call G__law_take (hr.mono (by decide)) (by rfl) D.g__law_take D.F__law_take.kp D.n__law_take (x_cons (e_name (pv 1)) (x_cons e_int x_nil))))))))
      (ss_cons (s_set (ps_set (i := 20) sc_law.nd rfl (.inl rfl) (e_callB (cr_sum2 rfl) dc_sum (by rfl) D.b_sum boot_sum (e_name (pv 19)))))
      (ss_cons (s_if (t_cmp op_gt dr_b (e_name (pv 20)) e_int (nomark _)) (ss_cons (s_set (ps_set (i := 21) sc_law.nd rfl (.inr rfl) (e_op op_addU dr_addU e_int (e_call G__law_take (hr.mono (by decide)) (by rfl) D.g__law_take D.F__law_take.kp D.n__law_take (x_cons (e_name (pv 1)) (x_cons (e_name (pv 20)) x_nil))))))
      (ss_cons (s_set (ps_set (i := 22) sc_law.nd rfl (.inl rfl) (e_call G_majorities (hr.mono (by decide)) (by rfl) D.g_majorities D.F_majorities.kp D.n_majorities (x_cons (e_name (pv 19)) (x_cons (e_name (pv 21)) x_nil)))))
      (ss_cons (s_if (t_w (w_orC (t_cmp op_gt dr_b (e_callB call_len_seq dc_len (by rfl) D.b_len PySem.boot_len (e_lc (own := [("row", 18)]) rfl sc_law.nd (i_seq (e_name (pv 22))) (blkOk_by (by kernel_rfl)) (fun _ _ _ _ _ => (g_name (pg_name (i := 18) sc_law.nd rfl (by first | exact Or.inl rfl | exact Or.inr rfl)))) (fun _ _ _ _ _ => (ts_one (t_cmp op_lt dr_b (e_callB (cr_sum2 rfl) dc_sum (by rfl) D.b_sum boot_sum (e_lc (own := [("k", 4)]) rfl sc_law.nd (i_seq (e_name (pv 18))) (blkOk_by (by kernel_rfl)) (fun _ _ _ _ _ => (g_name (pg_name (i := 4) sc_law.nd rfl (by first | exact Or.inl rfl | exact Or.inr rfl)))) (fun _ _ _ _ _ => ts_nil) (fun _ _ _ _ _ => (e_ix (e_name (pv 19)) (e_name (pv 4)))))) (e_name (pv 21)) (nomark _)))) (fun _ _ _ _ _ => (e_name (pv 18))))) e_int (nomark _)) (w_or1 (t_cmp (op_neP hr.units) dr_ne (e_callTy call_list_of dc_list (by rfl) D.b_list boot_list (e_name (pv 22))) (e_call G__law_least (hr.mono (by decide)) (by rfl) D.g__law_least D.F__law_least.kp D.n__law_least (x_cons (e_name (pv 22)) x_nil)) (nomark _))))) (ss_one (s_ret e_bl)) ss_nil)
      (ss_cons (s_set (ps_set (i := 23) sc_law.nd rfl (.inl rfl) (e_call G_majorities (hr.mono (by decide)) (by rfl) D.g_majorities D.F_majorities.kp D.n_majorities (x_cons (e_name (pv 19)) (x_cons (e_op op_sub dr_i (e_op op_addU dr_addU (e_name (pv 20)) e_int) (e_name (pv 21))) x_nil)))))
      (ss_cons (s_if (t_w (w_orC (t_cmp (op_neP hr.units) dr_ne (e_call G_dual (hr.mono (by decide)) (by rfl) D.g_dual D.F_dual.kp D.n_dual (x_cons (e_name (pv 2)) (x_cons (e_name (pv 22)) x_nil))) (e_name (pv 23)) (nomark _)) (w_or1 (t_cmp (op_neP hr.units) dr_ne (e_call G_dual (hr.mono (by decide)) (by rfl) D.g_dual D.F_dual.kp D.n_dual (x_cons (e_name (pv 2)) (x_cons (e_name (pv 23)) x_nil))) (e_name (pv 22)) (nomark _))))) (ss_one (s_ret e_bl)) ss_nil)
      (ss_cons (s_if (t_w (w_andC (t_cmp op_gt dr_b (e_op op_mul dr_c e_int (e_name (pv 21))) (e_name (pv 20)) (nomark _)) (w_and1 (t_cmp op_notN dr_notN (e_call G_clash (hr.mono (by decide)) (by rfl) D.g_clash D.F_clash.kp D.n_clash (x_cons (e_name (pv 2)) (x_cons (e_name (pv 22)) (x_cons (e_name (pv 22)) x_nil)))) e_non (nomark _))))) (ss_one (s_ret e_bl)) ss_nil)
      (ss_one (s_if (t_cmp op_notN dr_notN (e_call G_stale_run (hr.mono (by decide)) (by rfl) D.g_stale_run D.F_stale_run.kp D.n_stale_run (x_cons (e_name (pv 2)) (x_cons (e_name (pv 22)) (x_cons (e_name (pv 23)) x_nil)))) e_non (nomark _)) (ss_one (s_ret e_bl)) ss_nil)))))))) ss_nil)
      (ss_cons (s_set (ps_set (i := 24) sc_law.nd rfl (.inr rfl) (e_callTy call_tuple_of dc_tuple (by rfl) D.b_tuple boot_tuple (e_lc (own := [("row", 18)]) rfl sc_law.nd (i_seq (e_name (pv 3))) (blkOk_by (by kernel_rfl)) (fun _ _ _ _ _ => (g_name (pg_name (i := 18) sc_law.nd rfl (by first | exact Or.inl rfl | exact Or.inr rfl)))) (fun _ _ _ _ _ => ts_nil) (fun _ _ _ _ _ => (e_call G__law_take (hr.mono (by decide)) (by rfl) D.g__law_take D.F__law_take.kp D.n__law_take (x_cons (e_name (pv 1)) (x_cons e_int x_nil))))))))
      (ss_cons (s_unp2 (e_call G_busiest (hr.mono (by decide)) (by rfl) D.g_busiest D.F_busiest.kp D.n_busiest (x_cons (e_name (pv 2)) (x_cons (e_name (pv 3)) (x_cons (e_name (pv 24)) x_nil)))) (g_tup (pg_tup (n := 2) rfl (gs_cons (g_name (pg_name (i := 25) sc_law.nd rfl (.inl rfl))) (gs_cons (g_name (pg_name (i := 26) sc_law.nd rfl (.inl rfl))) gs_nil)))))
      (ss_cons (s_if (t_w (w_orC (t_cmp (op_neP hr.units) dr_ne (e_callB (cr_sum2 rfl) dc_sum (by rfl) D.b_sum boot_sum (e_name (pv 25))) (e_callB (cr_sum2 rfl) dc_sum (by rfl) D.b_sum boot_sum (e_lc (own := [("k", 4)]) rfl sc_law.nd (i_rng1 (by rfl) D.b_range (e_callB call_len_seq dc_len (by rfl) D.b_len PySem.boot_len (e_name (pv 3)))) (blkOk_by (by kernel_rfl)) (fun _ _ _ _ _ => (g_name (pg_name (i := 4) sc_law.nd rfl (by first | exact Or.inl rfl | exact Or.inr rfl)))) (fun _ _ _ _ _ => ts_nil) (fun _ _ _ _ _ => (e_op op_mul dr_c (e_ix (e_name (pv 24)) (e_name (pv 4))) (e_callB call_len_seq dc_len (by rfl) D.b_len PySem.boot_len (e_ix (e_name (pv 3)) (e_name (pv 4)))))))) (nomark _)) (w_orC (t_cmp (op_neP hr.units) dr_ne (e_name (pv 26)) (e_callB (cr_maxD rfl hr.units) dc_best (by rfl) D.b_max boot_max (e_name (pv 25))) (nomark _)) (w_or1 (t_cmp op_lt dr_b (e_op op_mul dr_c (e_name (pv 2)) (e_name (pv 26))) (e_callB (cr_sum2 rfl) dc_sum (by rfl) D.b_sum boot_sum (e_name (pv 25))) (nomark _)))))) (ss_one (s_ret e_bl)) ss_nil)
      (ss_cons (s_if (t_cmp op_lt dr_b (e_op op_mul dr_c (e_op op_mul dr_c (e_name (pv 26)) (e_callB call_len_seq dc_len (by rfl) D.b_len PySem.boot_len (e_name (pv 3)))) (e_name (pv 2))) (e_callB (cr_sum2 rfl) dc_sum (by rfl) D.b_sum boot_sum (e_name (pv 24))) (nomark _)) (ss_one (s_ret e_bl)) ss_nil)
      (ss_one (s_ret (e_and (e_cmp (op_eqP hr.units) dr_eq (e_ix (e_call G_busiest (hr.mono (by decide)) (by rfl) D.g_busiest D.F_busiest.kp D.n_busiest (x_cons (e_name (pv 2)) (x_cons (e_name (pv 3)) (x_cons (e_callTy call_tuple_of dc_tuple (by rfl) D.b_tuple boot_tuple (e_lc (own := [("one", 7)]) rfl sc_law.nd (i_seq (e_name (pv 24))) (blkOk_by (by kernel_rfl)) (fun _ _ _ _ _ => (g_name (pg_name (i := 7) sc_law.nd rfl (by first | exact Or.inl rfl | exact Or.inr rfl)))) (fun _ _ _ _ _ => ts_nil) (fun _ _ _ _ _ => (e_op op_mul dr_c e_int (e_name (pv 7)))))) x_nil)))) e_int) (e_op op_mul dr_c e_int (e_name (pv 26))) (nomark _)) (e_one (e_cmp (op_eqP hr.units) dr_eq (e_call G_survives (hr.mono (by decide)) (by rfl) D.g_survives D.F_survives.kp D.n_survives (x_cons (e_name (pv 2)) (x_cons (e_tup (x_cons (e_tupRg D.b_tuple D.b_range (e_name (pv 2))) x_nil)) x_nil))) e_int (nomark _)))))))))))))))))))))))))))))))))))) (fun oo ds Kc h => ?_)
  · obtain ⟨ns, rfl, rfl, _⟩ := h
    rfl
  · obtain ⟨ns, rfl, rfl, hl, k⟩ := h
    show aSeq _ _ _ [some (.dat (.list (ns.map PyData.int))), none, none, none, none, none, none, none, none, none, none, none, none, none, none, none, none, none, none, none, none, none, none, none, none, none, none]
    refine cut (fun ρ => ∃ s : Int, ρ = [some (.dat (.list (ns.map PyData.int))), some (.own none (.lst (tape ns 0 0 s))), none, none, none, none, none, none, none, none, none, none, none, none, none, none, none, none, none, none, none, none, none, none, none, none, none]) (fun Kn kn => ?_) ?_
    · simp only [aName_eq, nm_dat, nm_own, dd_dat, dd_own, bb_bool, arg_dat, arg_own, arg_ali, das_nil, das_dat, cont_list, cont_tup, cont_own, cont_ali, contS_own, ownL_own, ownO_own, stor_dat, stor_own, iD_int, ii_int, i1_int, sAddU_int, sAddU_tup, truS_none, truS_bool, truS_int, truS_list, truS_tup, truS_ali, srcOf_list, srcOf_tup, srcOf_ali, Ab.got_some, gZ_nil, gC_cons, gT_tup, onlyDat_dat, notAli_dat, notAli_own, getO_some, fin_none, fin_some, finO_own, callA_nil, callA_dat, callA_ali, argS_none, argS_some, rt_ad, nx_ad, isN_none, isN_tup, notN_none, notN_tup, aNx, aRet, aIf, aSet, aAug, aDrop, aNever, aC, aBin, aBinR, aUn, aTst, aChain, aNot, aAnd, aOr, aIfE, aAndV, aOrV, aNotV, aNil, aCons, aTup, aLst, aCall1, aCallD, aIx, aApp, aExt, aSetIx, aTru, sLen, sAny, sAll, sSum, sList, sTuple, fI, fC, fB, aSeqI, aRng1, aFor, aFrz, gN, aUnp, aLc, aYes, aCall, aRep, aRgT, turn, wipeA, br_true, br_false, List.map_nil, List.map_cons, List.nil_append, List.cons_append, List.replicate, List.getElem?_cons_zero, List.getElem?_cons_succ, List.set_cons_zero, List.set_cons_succ, List.length_cons, List.length_nil, sIn_int, sNotIn_int, sEq_int, sNe_int, sEq_bool, sNe_bool, sEq_str]
      refine ⟨ns, rfl, rfl, hl, fun s => ?_⟩
      simp only [aName_eq, nm_dat, nm_own, dd_dat, dd_own, bb_bool, arg_dat, arg_own, arg_ali, das_nil, das_dat, cont_list, cont_tup, cont_own, cont_ali, contS_own, ownL_own, ownO_own, stor_dat, stor_own, iD_int, ii_int, i1_int, sAddU_int, sAddU_tup, truS_none, truS_bool, truS_int, truS_list, truS_tup, truS_ali, srcOf_list, srcOf_tup, srcOf_ali, Ab.got_some, gZ_nil, gC_cons, gT_tup, onlyDat_dat, notAli_dat, notAli_own, getO_some, fin_none, fin_some, finO_own, callA_nil, callA_dat, callA_ali, argS_none, argS_some, rt_ad, nx_ad, isN_none, isN_tup, notN_none, notN_tup, aNx, aRet, aIf, aSet, aAug, aDrop, aNever, aC, aBin, aBinR, aUn, aTst, aChain, aNot, aAnd, aOr, aIfE, aAndV, aOrV, aNotV, aNil, aCons, aTup, aLst, aCall1, aCallD, aIx, aApp, aExt, aSetIx, aTru, sLen, sAny, sAll, sSum, sList, sTuple, fI, fC, fB, aSeqI, aRng1, aFor, aFrz, gN, aUnp, aLc, aYes, aCall, aRep, aRgT, turn, wipeA, br_true, br_false, List.map_nil, List.map_cons, List.nil_append, List.cons_append, List.replicate, List.getElem?_cons_zero, List.getElem?_cons_succ, List.set_cons_zero, List.set_cons_succ, List.length_cons, List.length_nil, sIn_int, sNotIn_int, sEq_int, sNe_int, sEq_bool, sNe_bool, sEq_str]
      exact ⟨trivial, kn _ ⟨s, rfl⟩⟩
    rintro ρ ⟨s, rfl⟩
    refine cut (fun ρ => ∃ (p t l s : Int), 1 ≤ p ∧ p ≤ 5 ∧ OkTape ns t l s ∧ ρ = [some (.dat (.list (ns.map PyData.int))), some (.own none (.lst (tape ns t l s))), some (.dat (.int p)), none, none, none, none, none, none, none, none, none, none, none, none, none, none, none, none, none, none, none, none, none, none, none, none]) (fun Kn kn => ?_) ?_
    · simp only [aName_eq, nm_dat, nm_own, dd_dat, dd_own, bb_bool, arg_dat, arg_own, arg_ali, das_nil, das_dat, cont_list, cont_tup, cont_own, cont_ali, contS_own, ownL_own, ownO_own, stor_dat, stor_own, iD_int, ii_int, i1_int, sAddU_int, sAddU_tup, truS_none, truS_bool, truS_int, truS_list, truS_tup, truS_ali, srcOf_list, srcOf_tup, srcOf_ali, Ab.got_some, gZ_nil, gC_cons, gT_tup, onlyDat_dat, notAli_dat, notAli_own, getO_some, fin_none, fin_some, finO_own, callA_nil, callA_dat, callA_ali, argS_none, argS_some, rt_ad, nx_ad, isN_none, isN_tup, notN_none, notN_tup, aNx, aRet, aIf, aSet, aAug, aDrop, aNever, aC, aBin, aBinR, aUn, aTst, aChain, aNot, aAnd, aOr, aIfE, aAndV, aOrV, aNotV, aNil, aCons, aTup, aLst, aCall1, aCallD, aIx, aApp, aExt, aSetIx, aTru, sLen, sAny, sAll, sSum, sList, sTuple, fI, fC, fB, aSeqI, aRng1, aFor, aFrz, gN, aUnp, aLc, aYes, aCall, aRep, aRgT, turn, wipeA, br_true, br_false, List.map_nil, List.map_cons, List.nil_append, List.cons_append, List.replicate, List.getElem?_cons_zero, List.getElem?_cons_succ, List.set_cons_zero, List.set_cons_succ, List.length_cons, List.length_nil, sIn_int, sNotIn_int, sEq_int, sNe_int, sEq_bool, sNe_bool, sEq_str]
      refine ⟨ns, 0, 0, s, 5, rfl, rfl, ⟨by omega, by omega, by omega⟩, by decide, by decide, fun r t' l' s' r0 r1 hT => ?_⟩
      simp only [aName_eq, nm_dat, nm_own, dd_dat, dd_own, bb_bool, arg_dat, arg_own, arg_ali, das_nil, das_dat, cont_list, cont_tup, cont_own, cont_ali, contS_own, ownL_own, ownO_own, stor_dat, stor_own, iD_int, ii_int, i1_int, sAddU_int, sAddU_tup, truS_none, truS_bool, truS_int, truS_list, truS_tup, truS_ali, srcOf_list, srcOf_tup, srcOf_ali, Ab.got_some, gZ_nil, gC_cons, gT_tup, onlyDat_dat, notAli_dat, notAli_own, getO_some, fin_none, fin_some, finO_own, callA_nil, callA_dat, callA_ali, argS_none, argS_some, rt_ad, nx_ad, isN_none, isN_tup, notN_none, notN_tup, aNx, aRet, aIf, aSet, aAug, aDrop, aNever, aC, aBin, aBinR, aUn, aTst, aChain, aNot, aAnd, aOr, aIfE, aAndV, aOrV, aNotV, aNil, aCons, aTup, aLst, aCall1, aCallD, aIx, aApp, aExt, aSetIx, aTru, sLen, sAny, sAll, sSum, sList, sTuple, fI, fC, fB, aSeqI, aRng1, aFor, aFrz, gN, aUnp, aLc, aYes, aCall, aRep, aRgT, turn, wipeA, br_true, br_false, List.map_nil, List.map_cons, List.nil_append, List.cons_append, List.replicate, List.getElem?_cons_zero, List.getElem?_cons_succ, List.set_cons_zero, List.set_cons_succ, List.length_cons, List.length_nil, sIn_int, sNotIn_int, sEq_int, sNe_int, sEq_bool, sNe_bool, sEq_str]
      exact kn _ ⟨1 + r, t', l', s', by omega, by omega, hT, rfl⟩
    rintro ρ ⟨p, t, l, s, p1, p5, hT, rfl⟩
    refine cut (fun ρ => ∃ (W : List (List Int)) (t l s : Int), OkSets p W ∧ W.length ≤ 10 ∧ OkTape ns t l s ∧ ρ = [some (.dat (.list (ns.map PyData.int))), some (.own none (.lst (tape ns t l s))), some (.dat (.int p)), some (.dat (eR W)), none, none, none, none, none, none, none, none, none, none, none, none, none, none, none, none, none, none, none, none, none, none, none]) (fun Kn kn => ?_) ?_
    · simp only [aName_eq, nm_dat, nm_own, dd_dat, dd_own, bb_bool, arg_dat, arg_own, arg_ali, das_nil, das_dat, cont_list, cont_tup, cont_own, cont_ali, contS_own, ownL_own, ownO_own, stor_dat, stor_own, iD_int, ii_int, i1_int, sAddU_int, sAddU_tup, truS_none, truS_bool, truS_int, truS_list, truS_tup, truS_ali, srcOf_list, srcOf_tup, srcOf_ali, Ab.got_some, gZ_nil, gC_cons, gT_tup, onlyDat_dat, notAli_dat, notAli_own, getO_some, fin_none, fin_some, finO_own, callA_nil, callA_dat, callA_ali, argS_none, argS_some, rt_ad, nx_ad, isN_none, isN_tup, notN_none, notN_tup, aNx, aRet, aIf, aSet, aAug, aDrop, aNever, aC, aBin, aBinR, aUn, aTst, aChain, aNot, aAnd, aOr, aIfE, aAndV, aOrV, aNotV, aNil, aCons, aTup, aLst, aCall1, aCallD, aIx, aApp, aExt, aSetIx, aTru, sLen, sAny, sAll, sSum, sList, sTuple, fI, fC, fB, aSeqI, aRng1, aFor, aFrz, gN, aUnp, aLc, aYes, aCall, aRep, aRgT, turn, wipeA, br_true, br_false, List.map_nil, List.map_cons, List.nil_append, List.cons_append, List.replicate, List.getElem?_cons_zero, List.getElem?_cons_succ, List.set_cons_zero, List.set_cons_succ, List.length_cons, List.length_nil, sIn_int, sNotIn_int, sEq_int, sNe_int, sEq_bool, sNe_bool, sEq_str]
      refine ⟨ns, t, l, s, 3, rfl, rfl, hT, by decide, by decide, fun r t' l' s' r0 r1 hT => ?_⟩
      simp only [aName_eq, nm_dat, nm_own, dd_dat, dd_own, bb_bool, arg_dat, arg_own, arg_ali, das_nil, das_dat, cont_list, cont_tup, cont_own, cont_ali, contS_own, ownL_own, ownO_own, stor_dat, stor_own, iD_int, ii_int, i1_int, sAddU_int, sAddU_tup, truS_none, truS_bool, truS_int, truS_list, truS_tup, truS_ali, srcOf_list, srcOf_tup, srcOf_ali, Ab.got_some, gZ_nil, gC_cons, gT_tup, onlyDat_dat, notAli_dat, notAli_own, getO_some, fin_none, fin_some, finO_own, callA_nil, callA_dat, callA_ali, argS_none, argS_some, rt_ad, nx_ad, isN_none, isN_tup, notN_none, notN_tup, aNx, aRet, aIf, aSet, aAug, aDrop, aNever, aC, aBin, aBinR, aUn, aTst, aChain, aNot, aAnd, aOr, aIfE, aAndV, aOrV, aNotV, aNil, aCons, aTup, aLst, aCall1, aCallD, aIx, aApp, aExt, aSetIx, aTru, sLen, sAny, sAll, sSum, sList, sTuple, fI, fC, fB, aSeqI, aRng1, aFor, aFrz, gN, aUnp, aLc, aYes, aCall, aRep, aRgT, turn, wipeA, br_true, br_false, List.map_nil, List.map_cons, List.nil_append, List.cons_append, List.replicate, List.getElem?_cons_zero, List.getElem?_cons_succ, List.set_cons_zero, List.set_cons_succ, List.length_cons, List.length_nil, sIn_int, sNotIn_int, sEq_int, sNe_int, sEq_bool, sNe_bool, sEq_str]
      refine ⟨by omega, by omega, ?_⟩
      rw [rangeD0]
      refine lc_inv (enc := fun (q : Nat) => PyData.int (q : Int)) (fun pre acc ρ => ∃ (rows : List (List Int)) (t l s : Int), rows.length = pre.length ∧ (∀ r ∈ rows, OkSet p r) ∧ acc = rows.map tI ∧ OkTape ns t l s ∧ ρ = [some (.dat (.list (ns.map PyData.int))), some (.own none (.lst (tape ns t l s))), some (.dat (.int p)), none, none, none, none, none, none, none, none, none, none, none, none, none, none, none, none, none, none, none, none, none, none, none, none])
        ⟨[], t', l', s', rfl, fun _ z => (nomatch z), rfl, hT, rfl⟩ (small_len (by simp; omega)) (fun pre acc ρ hI => ?_) ?_ ?_
      · obtain ⟨rows, t, l, s, _, _, _, _, rfl⟩ := hI
        exact ⟨trivial, by simp [Ab.freeOf]⟩
      · rintro pre x post e acc ρ ⟨rows, t, l, s, g1, g2, g3, g4, rfl⟩ Ka Ks ka ks
        simp only [aName_eq, nm_dat, nm_own, dd_dat, dd_own, bb_bool, arg_dat, arg_own, arg_ali, das_nil, das_dat, cont_list, cont_tup, cont_own, cont_ali, contS_own, ownL_own, ownO_own, stor_dat, stor_own, iD_int, ii_int, i1_int, sAddU_int, sAddU_tup, truS_none, truS_bool, truS_int, truS_list, truS_tup, truS_ali, srcOf_list, srcOf_tup, srcOf_ali, Ab.got_some, gZ_nil, gC_cons, gT_tup, onlyDat_dat, notAli_dat, notAli_own, getO_some, fin_none, fin_some, finO_own, callA_nil, callA_dat, callA_ali, argS_none, argS_some, rt_ad, nx_ad, isN_none, isN_tup, notN_none, notN_tup, aNx, aRet, aIf, aSet, aAug, aDrop, aNever, aC, aBin, aBinR, aUn, aTst, aChain, aNot, aAnd, aOr, aIfE, aAndV, aOrV, aNotV, aNil, aCons, aTup, aLst, aCall1, aCallD, aIx, aApp, aExt, aSetIx, aTru, sLen, sAny, sAll, sSum, sList, sTuple, fI, fC, fB, aSeqI, aRng1, aFor, aFrz, gN, aUnp, aLc, aYes, aCall, aRep, aRgT, turn, wipeA, br_true, br_false, List.map_nil, List.map_cons, List.nil_append, List.cons_append, List.replicate, List.getElem?_cons_zero, List.getElem?_cons_succ, List.set_cons_zero, List.set_cons_succ, List.length_cons, List.length_nil, sIn_int, sNotIn_int, sEq_int, sNe_int, sEq_bool, sNe_bool, sEq_str]
        refine ⟨ns, t, l, s, p, rfl, rfl, g4, by omega, by omega, fun r t' l' s' hr hT' => ?_⟩
        simp only [aName_eq, nm_dat, nm_own, dd_dat, dd_own, bb_bool, arg_dat, arg_own, arg_ali, das_nil, das_dat, cont_list, cont_tup, cont_own, cont_ali, contS_own, ownL_own, ownO_own, stor_dat, stor_own, iD_int, ii_int, i1_int, sAddU_int, sAddU_tup, truS_none, truS_bool, truS_int, truS_list, truS_tup, truS_ali, srcOf_list, srcOf_tup, srcOf_ali, Ab.got_some, gZ_nil, gC_cons, gT_tup, onlyDat_dat, notAli_dat, notAli_own, getO_some, fin_none, fin_some, finO_own, callA_nil, callA_dat, callA_ali, argS_none, argS_some, rt_ad, nx_ad, isN_none, isN_tup, notN_none, notN_tup, aNx, aRet, aIf, aSet, aAug, aDrop, aNever, aC, aBin, aBinR, aUn, aTst, aChain, aNot, aAnd, aOr, aIfE, aAndV, aOrV, aNotV, aNil, aCons, aTup, aLst, aCall1, aCallD, aIx, aApp, aExt, aSetIx, aTru, sLen, sAny, sAll, sSum, sList, sTuple, fI, fC, fB, aSeqI, aRng1, aFor, aFrz, gN, aUnp, aLc, aYes, aCall, aRep, aRgT, turn, wipeA, br_true, br_false, List.map_nil, List.map_cons, List.nil_append, List.cons_append, List.replicate, List.getElem?_cons_zero, List.getElem?_cons_succ, List.set_cons_zero, List.set_cons_succ, List.length_cons, List.length_nil, sIn_int, sNotIn_int, sEq_int, sNe_int, sEq_bool, sNe_bool, sEq_str]
        refine ka _ _ ⟨rows ++ [r], t', l', s', by simp [g1], fun q hq => ?_, by rw [g3, List.map_append]; rfl, hT', rfl⟩
        rcases List.mem_append.mp hq with hq | hq
        · exact g2 q hq
        · rw [List.mem_singleton.mp hq]
          exact hr
      · rintro acc ρ ⟨rows, t, l, s, g1, g2, rfl, g4, rfl⟩
        rw [List.length_range] at g1
        simp only [aName_eq, nm_dat, nm_own, dd_dat, dd_own, bb_bool, arg_dat, arg_own, arg_ali, das_nil, das_dat, cont_list, cont_tup, cont_own, cont_ali, contS_own, ownL_own, ownO_own, stor_dat, stor_own, iD_int, ii_int, i1_int, sAddU_int, sAddU_tup, truS_none, truS_bool, truS_int, truS_list, truS_tup, truS_ali, srcOf_list, srcOf_tup, srcOf_ali, Ab.got_some, gZ_nil, gC_cons, gT_tup, onlyDat_dat, notAli_dat, notAli_own, getO_some, fin_none, fin_some, finO_own, callA_nil, callA_dat, callA_ali, argS_none, argS_some, rt_ad, nx_ad, isN_none, isN_tup, notN_none, notN_tup, aNx, aRet, aIf, aSet, aAug, aDrop, aNever, aC, aBin, aBinR, aUn, aTst, aChain, aNot, aAnd, aOr, aIfE, aAndV, aOrV, aNotV, aNil, aCons, aTup, aLst, aCall1, aCallD, aIx, aApp, aExt, aSetIx, aTru, sLen, sAny, sAll, sSum, sList, sTuple, fI, fC, fB, aSeqI, aRng1, aFor, aFrz, gN, aUnp, aLc, aYes, aCall, aRep, aRgT, turn, wipeA, br_true, br_false, List.map_nil, List.map_cons, List.nil_append, List.cons_append, List.replicate, List.getElem?_cons_zero, List.getElem?_cons_succ, List.set_cons_zero, List.set_cons_succ, List.length_cons, List.length_nil, sIn_int, sNotIn_int, sEq_int, sNe_int, sEq_bool, sNe_bool, sEq_str]
        exact kn _ ⟨rows, t, l, s, ⟨by omega, by omega, by omega, by omega, g2⟩, by omega, g4, rfl⟩
    rintro ρ ⟨W, t, l, s, hW, hWl, hT, rfl⟩
    refine cut (fun ρ => ∃ (Q : List (List Int)) (t l s : Int), OkSets p Q ∧ Q.length ≤ 10 ∧ OkTape ns t l s ∧ ρ = [some (.dat (.list (ns.map PyData.int))), some (.own none (.lst (tape ns t l s))), some (.dat (.int p)), some (.dat (eR W)), none, some (.dat (eR Q)), none, none, none, none, none, none, none, none, none, none, none, none, none, none, none, none, none, none, none, none, none]) (fun Kn kn => ?_) ?_
    · simp only [aName_eq, nm_dat, nm_own, dd_dat, dd_own, bb_bool, arg_dat, arg_own, arg_ali, das_nil, das_dat, cont_list, cont_tup, cont_own, cont_ali, contS_own, ownL_own, ownO_own, stor_dat, stor_own, iD_int, ii_int, i1_int, sAddU_int, sAddU_tup, truS_none, truS_bool, truS_int, truS_list, truS_tup, truS_ali, srcOf_list, srcOf_tup, srcOf_ali, Ab.got_some, gZ_nil, gC_cons, gT_tup, onlyDat_dat, notAli_dat, notAli_own, getO_some, fin_none, fin_some, finO_own, callA_nil, callA_dat, callA_ali, argS_none, argS_some, rt_ad, nx_ad, isN_none, isN_tup, notN_none, notN_tup, aNx, aRet, aIf, aSet, aAug, aDrop, aNever, aC, aBin, aBinR, aUn, aTst, aChain, aNot, aAnd, aOr, aIfE, aAndV, aOrV, aNotV, aNil, aCons, aTup, aLst, aCall1, aCallD, aIx, aApp, aExt, aSetIx, aTru, sLen, sAny, sAll, sSum, sList, sTuple, fI, fC, fB, aSeqI, aRng1, aFor, aFrz, gN, aUnp, aLc, aYes, aCall, aRep, aRgT, turn, wipeA, br_true, br_false, List.map_nil, List.map_cons, List.nil_append, List.cons_append, List.replicate, List.getElem?_cons_zero, List.getElem?_cons_succ, List.set_cons_zero, List.set_cons_succ, List.length_cons, List.length_nil, sIn_int, sNotIn_int, sEq_int, sNe_int, sEq_bool, sNe_bool, sEq_str]
      refine ⟨ns, t, l, s, 3, rfl, rfl, hT, by decide, by decide, fun r t' l' s' r0 r1 hT => ?_⟩
      simp only [aName_eq, nm_dat, nm_own, dd_dat, dd_own, bb_bool, arg_dat, arg_own, arg_ali, das_nil, das_dat, cont_list, cont_tup, cont_own, cont_ali, contS_own, ownL_own, ownO_own, stor_dat, stor_own, iD_int, ii_int, i1_int, sAddU_int, sAddU_tup, truS_none, truS_bool, truS_int, truS_list, truS_tup, truS_ali, srcOf_list, srcOf_tup, srcOf_ali, Ab.got_some, gZ_nil, gC_cons, gT_tup, onlyDat_dat, notAli_dat, notAli_own, getO_some, fin_none, fin_some, finO_own, callA_nil, callA_dat, callA_ali, argS_none, argS_some, rt_ad, nx_ad, isN_none, isN_tup, notN_none, notN_tup, aNx, aRet, aIf, aSet, aAug, aDrop, aNever, aC, aBin, aBinR, aUn, aTst, aChain, aNot, aAnd, aOr, aIfE, aAndV, aOrV, aNotV, aNil, aCons, aTup, aLst, aCall1, aCallD, aIx, aApp, aExt, aSetIx, aTru, sLen, sAny, sAll, sSum, sList, sTuple, fI, fC, fB, aSeqI, aRng1, aFor, aFrz, gN, aUnp, aLc, aYes, aCall, aRep, aRgT, turn, wipeA, br_true, br_false, List.map_nil, List.map_cons, List.nil_append, List.cons_append, List.replicate, List.getElem?_cons_zero, List.getElem?_cons_succ, List.set_cons_zero, List.set_cons_succ, List.length_cons, List.length_nil, sIn_int, sNotIn_int, sEq_int, sNe_int, sEq_bool, sNe_bool, sEq_str]
      refine ⟨by omega, by omega, ?_⟩
      rw [rangeD0]
      refine lc_inv (enc := fun (q : Nat) => PyData.int (q : Int)) (fun pre acc ρ => ∃ (rows : List (List Int)) (t l s : Int), rows.length = pre.length ∧ (∀ r ∈ rows, OkSet p r) ∧ acc = rows.map tI ∧ OkTape ns t l s ∧ ρ = [some (.dat (.list (ns.map PyData.int))), some (.own none (.lst (tape ns t l s))), some (.dat (.int p)), some (.dat (eR W)), none, none, none, none, none, none, none, none, none, none, none, none, none, none, none, none, none, none, none, none, none, none, none])
        ⟨[], t', l', s', rfl, fun _ z => (nomatch z), rfl, hT, rfl⟩ (small_len (by simp; omega)) (fun pre acc ρ hI => ?_) ?_ ?_
      · obtain ⟨rows, t, l, s, _, _, _, _, rfl⟩ := hI
        exact ⟨trivial, by simp [Ab.freeOf]⟩
      · rintro pre x post e acc ρ ⟨rows, t, l, s, g1, g2, g3, g4, rfl⟩ Ka Ks ka ks
        simp only [aName_eq, nm_dat, nm_own, dd_dat, dd_own, bb_bool, arg_dat, arg_own, arg_ali, das_nil, das_dat, cont_list, cont_tup, cont_own, cont_ali, contS_own, ownL_own, ownO_own, stor_dat, stor_own, iD_int, ii_int, i1_int, sAddU_int, sAddU_tup, truS_none, truS_bool, truS_int, truS_list, truS_tup, truS_ali, srcOf_list, srcOf_tup, srcOf_ali, Ab.got_some, gZ_nil, gC_cons, gT_tup, onlyDat_dat, notAli_dat, notAli_own, getO_some, fin_none, fin_some, finO_own, callA_nil, callA_dat, callA_ali, argS_none, argS_some, rt_ad, nx_ad, isN_none, isN_tup, notN_none, notN_tup, aNx, aRet, aIf, aSet, aAug, aDrop, aNever, aC, aBin, aBinR, aUn, aTst, aChain, aNot, aAnd, aOr, aIfE, aAndV, aOrV, aNotV, aNil, aCons, aTup, aLst, aCall1, aCallD, aIx, aApp, aExt, aSetIx, aTru, sLen, sAny, sAll, sSum, sList, sTuple, fI, fC, fB, aSeqI, aRng1, aFor, aFrz, gN, aUnp, aLc, aYes, aCall, aRep, aRgT, turn, wipeA, br_true, br_false, List.map_nil, List.map_cons, List.nil_append, List.cons_append, List.replicate, List.getElem?_cons_zero, List.getElem?_cons_succ, List.set_cons_zero, List.set_cons_succ, List.length_cons, List.length_nil, sIn_int, sNotIn_int, sEq_int, sNe_int, sEq_bool, sNe_bool, sEq_str]
        refine ⟨ns, t, l, s, p, rfl, rfl, g4, by omega, by omega, fun r t' l' s' hr hT' => ?_⟩
        simp only [aName_eq, nm_dat, nm_own, dd_dat, dd_own, bb_bool, arg_dat, arg_own, arg_ali, das_nil, das_dat, cont_list, cont_tup, cont_own, cont_ali, contS_own, ownL_own, ownO_own, stor_dat, stor_own, iD_int, ii_int, i1_int, sAddU_int, sAddU_tup, truS_none, truS_bool, truS_int, truS_list, truS_tup, truS_ali, srcOf_list, srcOf_tup, srcOf_ali, Ab.got_some, gZ_nil, gC_cons, gT_tup, onlyDat_dat, notAli_dat, notAli_own, getO_some, fin_none, fin_some, finO_own, callA_nil, callA_dat, callA_ali, argS_none, argS_some, rt_ad, nx_ad, isN_none, isN_tup, notN_none, notN_tup, aNx, aRet, aIf, aSet, aAug, aDrop, aNever, aC, aBin, aBinR, aUn, aTst, aChain, aNot, aAnd, aOr, aIfE, aAndV, aOrV, aNotV, aNil, aCons, aTup, aLst, aCall1, aCallD, aIx, aApp, aExt, aSetIx, aTru, sLen, sAny, sAll, sSum, sList, sTuple, fI, fC, fB, aSeqI, aRng1, aFor, aFrz, gN, aUnp, aLc, aYes, aCall, aRep, aRgT, turn, wipeA, br_true, br_false, List.map_nil, List.map_cons, List.nil_append, List.cons_append, List.replicate, List.getElem?_cons_zero, List.getElem?_cons_succ, List.set_cons_zero, List.set_cons_succ, List.length_cons, List.length_nil, sIn_int, sNotIn_int, sEq_int, sNe_int, sEq_bool, sNe_bool, sEq_str]
        refine ka _ _ ⟨rows ++ [r], t', l', s', by simp [g1], fun q hq => ?_, by rw [g3, List.map_append]; rfl, hT', rfl⟩
        rcases List.mem_append.mp hq with hq | hq
        · exact g2 q hq
        · rw [List.mem_singleton.mp hq]
          exact hr
      · rintro acc ρ ⟨rows, t, l, s, g1, g2, rfl, g4, rfl⟩
        rw [List.length_range] at g1
        simp only [aName_eq, nm_dat, nm_own, dd_dat, dd_own, bb_bool, arg_dat, arg_own, arg_ali, das_nil, das_dat, cont_list, cont_tup, cont_own, cont_ali, contS_own, ownL_own, ownO_own, stor_dat, stor_own, iD_int, ii_int, i1_int, sAddU_int, sAddU_tup, truS_none, truS_bool, truS_int, truS_list, truS_tup, truS_ali, srcOf_list, srcOf_tup, srcOf_ali, Ab.got_some, gZ_nil, gC_cons, gT_tup, onlyDat_dat, notAli_dat, notAli_own, getO_some, fin_none, fin_some, finO_own, callA_nil, callA_dat, callA_ali, argS_none, argS_some, rt_ad, nx_ad, isN_none, isN_tup, notN_none, notN_tup, aNx, aRet, aIf, aSet, aAug, aDrop, aNever, aC, aBin, aBinR, aUn, aTst, aChain, aNot, aAnd, aOr, aIfE, aAndV, aOrV, aNotV, aNil, aCons, aTup, aLst, aCall1, aCallD, aIx, aApp, aExt, aSetIx, aTru, sLen, sAny, sAll, sSum, sList, sTuple, fI, fC, fB, aSeqI, aRng1, aFor, aFrz, gN, aUnp, aLc, aYes, aCall, aRep, aRgT, turn, wipeA, br_true, br_false, List.map_nil, List.map_cons, List.nil_append, List.cons_append, List.replicate, List.getElem?_cons_zero, List.getElem?_cons_succ, List.set_cons_zero, List.set_cons_succ, List.length_cons, List.length_nil, sIn_int, sNotIn_int, sEq_int, sNe_int, sEq_bool, sNe_bool, sEq_str]
        exact kn _ ⟨rows, t, l, s, ⟨by omega, by omega, by omega, by omega, g2⟩, by omega, g4, rfl⟩
    rintro ρ ⟨Q, t, l, s, hQ, hQl, hT, rfl⟩
    have hWs : ∀ v ∈ W, v.length ≤ 5 := fun v hv => by have := (hW.each v hv).len; omega
    have hQs : ∀ v ∈ Q, v.length ≤ 5 := fun v hv => by have := (hQ.each v hv).len; omega
    have hp0 : 0 ≤ p := by omega
    refine cut1 [some (.dat (.list (ns.map PyData.int))), some (.own none (.lst (tape ns t l s))), some (.dat (.int p)), some (.dat (eR W)), none, some (.dat (eR Q)), some (.dat (.bool (meetB W Q))), none, none, none, none, none, none, none, none, none, none, none, none, none, none, none, none, none, none, none, none] (fun Kn kn => ?_) ?_
    · simp only [eR, aName_eq, nm_dat, nm_own, dd_dat, dd_own, bb_bool, arg_dat, arg_own, arg_ali, das_nil, das_dat, cont_list, cont_tup, cont_own, cont_ali, contS_own, ownL_own, ownO_own, stor_dat, stor_own, iD_int, ii_int, i1_int, sAddU_int, sAddU_tup, truS_none, truS_bool, truS_int, truS_list, truS_tup, truS_ali, srcOf_list, srcOf_tup, srcOf_ali, Ab.got_some, gZ_nil, gC_cons, gT_tup, onlyDat_dat, notAli_dat, notAli_own, getO_some, fin_none, fin_some, finO_own, callA_nil, callA_dat, callA_ali, argS_none, argS_some, rt_ad, nx_ad, isN_none, isN_tup, notN_none, notN_tup, aNx, aRet, aIf, aSet, aAug, aDrop, aNever, aC, aBin, aBinR, aUn, aTst, aChain, aNot, aAnd, aOr, aIfE, aAndV, aOrV, aNotV, aNil, aCons, aTup, aLst, aCall1, aCallD, aIx, aApp, aExt, aSetIx, aTru, sLen, sAny, sAll, sSum, sList, sTuple, fI, fC, fB, aSeqI, aRng1, aFor, aFrz, gN, aUnp, aLc, aYes, aCall, aRep, aRgT, turn, wipeA, br_true, br_false, List.map_nil, List.map_cons, List.nil_append, List.cons_append, List.replicate, List.getElem?_cons_zero, List.getElem?_cons_succ, List.set_cons_zero, List.set_cons_succ, List.length_cons, List.length_nil, sIn_int, sNotIn_int, sEq_int, sNe_int, sEq_bool, sNe_bool, sEq_str]
      refine lc_pure (enc := tI) (fun a => Q.any fun b => !hit a b) (fun _ => .int 1) trivial (by simp [Ab.freeOf]) (small_len (by omega)) (fun a ha Ka Ks ka ks => ?_) ?_
      · simp only [aName_eq, nm_dat, nm_own, dd_dat, dd_own, bb_bool, arg_dat, arg_own, arg_ali, das_nil, das_dat, cont_list, cont_tup, cont_own, cont_ali, contS_own, ownL_own, ownO_own, stor_dat, stor_own, iD_int, ii_int, i1_int, sAddU_int, sAddU_tup, truS_none, truS_bool, truS_int, truS_list, truS_tup, truS_ali, srcOf_list, srcOf_tup, srcOf_ali, Ab.got_some, gZ_nil, gC_cons, gT_tup, onlyDat_dat, notAli_dat, notAli_own, getO_some, fin_none, fin_some, finO_own, callA_nil, callA_dat, callA_ali, argS_none, argS_some, rt_ad, nx_ad, isN_none, isN_tup, notN_none, notN_tup, aNx, aRet, aIf, aSet, aAug, aDrop, aNever, aC, aBin, aBinR, aUn, aTst, aChain, aNot, aAnd, aOr, aIfE, aAndV, aOrV, aNotV, aNil, aCons, aTup, aLst, aCall1, aCallD, aIx, aApp, aExt, aSetIx, aTru, sLen, sAny, sAll, sSum, sList, sTuple, fI, fC, fB, aSeqI, aRng1, aFor, aFrz, gN, aUnp, aLc, aYes, aCall, aRep, aRgT, turn, wipeA, br_true, br_false, List.map_nil, List.map_cons, List.nil_append, List.cons_append, List.replicate, List.getElem?_cons_zero, List.getElem?_cons_succ, List.set_cons_zero, List.set_cons_succ, List.length_cons, List.length_nil, sIn_int, sNotIn_int, sEq_int, sNe_int, sEq_bool, sNe_bool, sEq_str]
        have hal := hWs a ha
        refine lc_pure (enc := tI) (fun b => !hit a b) tI trivial (by simp [Ab.freeOf]) (small_len (by omega)) (fun b hb Kb Ks2 kb ks2 => ?_) ?_
        · simp only [aName_eq, nm_dat, nm_own, dd_dat, dd_own, bb_bool, arg_dat, arg_own, arg_ali, das_nil, das_dat, cont_list, cont_tup, cont_own, cont_ali, contS_own, ownL_own, ownO_own, stor_dat, stor_own, iD_int, ii_int, i1_int, sAddU_int, sAddU_tup, truS_none, truS_bool, truS_int, truS_list, truS_tup, truS_ali, srcOf_list, srcOf_tup, srcOf_ali, Ab.got_some, gZ_nil, gC_cons, gT_tup, onlyDat_dat, notAli_dat, notAli_own, getO_some, fin_none, fin_some, finO_own, callA_nil, callA_dat, callA_ali, argS_none, argS_some, rt_ad, nx_ad, isN_none, isN_tup, notN_none, notN_tup, aNx, aRet, aIf, aSet, aAug, aDrop, aNever, aC, aBin, aBinR, aUn, aTst, aChain, aNot, aAnd, aOr, aIfE, aAndV, aOrV, aNotV, aNil, aCons, aTup, aLst, aCall1, aCallD, aIx, aApp, aExt, aSetIx, aTru, sLen, sAny, sAll, sSum, sList, sTuple, fI, fC, fB, aSeqI, aRng1, aFor, aFrz, gN, aUnp, aLc, aYes, aCall, aRep, aRgT, turn, wipeA, br_true, br_false, List.map_nil, List.map_cons, List.nil_append, List.cons_append, List.replicate, List.getElem?_cons_zero, List.getElem?_cons_succ, List.set_cons_zero, List.set_cons_succ, List.length_cons, List.length_nil, sIn_int, sNotIn_int, sEq_int, sNe_int, sEq_bool, sNe_bool, sEq_str]
          exact ⟨a, b, rfl, rfl, by omega, rfl, kb, ks2⟩
        · simp only [List.length_map, lenP, aName_eq, nm_dat, nm_own, dd_dat, dd_own, bb_bool, arg_dat, arg_own, arg_ali, das_nil, das_dat, cont_list, cont_tup, cont_own, cont_ali, contS_own, ownL_own, ownO_own, stor_dat, stor_own, iD_int, ii_int, i1_int, sAddU_int, sAddU_tup, truS_none, truS_bool, truS_int, truS_list, truS_tup, truS_ali, srcOf_list, srcOf_tup, srcOf_ali, Ab.got_some, gZ_nil, gC_cons, gT_tup, onlyDat_dat, notAli_dat, notAli_own, getO_some, fin_none, fin_some, finO_own, callA_nil, callA_dat, callA_ali, argS_none, argS_some, rt_ad, nx_ad, isN_none, isN_tup, notN_none, notN_tup, aNx, aRet, aIf, aSet, aAug, aDrop, aNever, aC, aBin, aBinR, aUn, aTst, aChain, aNot, aAnd, aOr, aIfE, aAndV, aOrV, aNotV, aNil, aCons, aTup, aLst, aCall1, aCallD, aIx, aApp, aExt, aSetIx, aTru, sLen, sAny, sAll, sSum, sList, sTuple, fI, fC, fB, aSeqI, aRng1, aFor, aFrz, gN, aUnp, aLc, aYes, aCall, aRep, aRgT, turn, wipeA, br_true, br_false, List.map_nil, List.map_cons, List.nil_append, List.cons_append, List.replicate, List.getElem?_cons_zero, List.getElem?_cons_succ, List.set_cons_zero, List.set_cons_succ, List.length_cons, List.length_nil, sIn_int, sNotIn_int, sEq_int, sNe_int, sEq_bool, sNe_bool, sEq_str]
          exact ⟨ka, ks⟩
      · simp only [List.length_map, len0, aName_eq, nm_dat, nm_own, dd_dat, dd_own, bb_bool, arg_dat, arg_own, arg_ali, das_nil, das_dat, cont_list, cont_tup, cont_own, cont_ali, contS_own, ownL_own, ownO_own, stor_dat, stor_own, iD_int, ii_int, i1_int, sAddU_int, sAddU_tup, truS_none, truS_bool, truS_int, truS_list, truS_tup, truS_ali, srcOf_list, srcOf_tup, srcOf_ali, Ab.got_some, gZ_nil, gC_cons, gT_tup, onlyDat_dat, notAli_dat, notAli_own, getO_some, fin_none, fin_some, finO_own, callA_nil, callA_dat, callA_ali, argS_none, argS_some, rt_ad, nx_ad, isN_none, isN_tup, notN_none, notN_tup, aNx, aRet, aIf, aSet, aAug, aDrop, aNever, aC, aBin, aBinR, aUn, aTst, aChain, aNot, aAnd, aOr, aIfE, aAndV, aOrV, aNotV, aNil, aCons, aTup, aLst, aCall1, aCallD, aIx, aApp, aExt, aSetIx, aTru, sLen, sAny, sAll, sSum, sList, sTuple, fI, fC, fB, aSeqI, aRng1, aFor, aFrz, gN, aUnp, aLc, aYes, aCall, aRep, aRgT, turn, wipeA, br_true, br_false, List.map_nil, List.map_cons, List.nil_append, List.cons_append, List.replicate, List.getElem?_cons_zero, List.getElem?_cons_succ, List.set_cons_zero, List.set_cons_succ, List.length_cons, List.length_nil, sIn_int, sNotIn_int, sEq_int, sNe_int, sEq_bool, sNe_bool, sEq_str]
        exact kn
    refine cut1 [some (.dat (.list (ns.map PyData.int))), some (.own none (.lst (tape ns t l s))), some (.dat (.int p)), some (.dat (eR W)), none, some (.dat (eR Q)), some (.dat (.bool (meetB W Q))), none, none, some (.dat (eStale W Q)), none, none, none, none, none, none, none, none, none, none, none, none, none, none, none, none, none] (fun Kn kn => ?_) ?_
    · simp only [aName_eq, nm_dat, nm_own, dd_dat, dd_own, bb_bool, arg_dat, arg_own, arg_ali, das_nil, das_dat, cont_list, cont_tup, cont_own, cont_ali, contS_own, ownL_own, ownO_own, stor_dat, stor_own, iD_int, ii_int, i1_int, sAddU_int, sAddU_tup, truS_none, truS_bool, truS_int, truS_list, truS_tup, truS_ali, srcOf_list, srcOf_tup, srcOf_ali, Ab.got_some, gZ_nil, gC_cons, gT_tup, onlyDat_dat, notAli_dat, notAli_own, getO_some, fin_none, fin_some, finO_own, callA_nil, callA_dat, callA_ali, argS_none, argS_some, rt_ad, nx_ad, isN_none, isN_tup, notN_none, notN_tup, aNx, aRet, aIf, aSet, aAug, aDrop, aNever, aC, aBin, aBinR, aUn, aTst, aChain, aNot, aAnd, aOr, aIfE, aAndV, aOrV, aNotV, aNil, aCons, aTup, aLst, aCall1, aCallD, aIx, aApp, aExt, aSetIx, aTru, sLen, sAny, sAll, sSum, sList, sTuple, fI, fC, fB, aSeqI, aRng1, aFor, aFrz, gN, aUnp, aLc, aYes, aCall, aRep, aRgT, turn, wipeA, br_true, br_false, List.map_nil, List.map_cons, List.nil_append, List.cons_append, List.replicate, List.getElem?_cons_zero, List.getElem?_cons_succ, List.set_cons_zero, List.set_cons_succ, List.length_cons, List.length_nil, sIn_int, sNotIn_int, sEq_int, sNe_int, sEq_bool, sNe_bool, sEq_str]
      refine ⟨p, W, Q, rfl, rfl, hW, hQ, rfl, ?_⟩
      simp only [aName_eq, nm_dat, nm_own, dd_dat, dd_own, bb_bool, arg_dat, arg_own, arg_ali, das_nil, das_dat, cont_list, cont_tup, cont_own, cont_ali, contS_own, ownL_own, ownO_own, stor_dat, stor_own, iD_int, ii_int, i1_int, sAddU_int, sAddU_tup, truS_none, truS_bool, truS_int, truS_list, truS_tup, truS_ali, srcOf_list, srcOf_tup, srcOf_ali, Ab.got_some, gZ_nil, gC_cons, gT_tup, onlyDat_dat, notAli_dat, notAli_own, getO_some, fin_none, fin_some, finO_own, callA_nil, callA_dat, callA_ali, argS_none, argS_some, rt_ad, nx_ad, isN_none, isN_tup, notN_none, notN_tup, aNx, aRet, aIf, aSet, aAug, aDrop, aNever, aC, aBin, aBinR, aUn, aTst, aChain, aNot, aAnd, aOr, aIfE, aAndV, aOrV, aNotV, aNil, aCons, aTup, aLst, aCall1, aCallD, aIx, aApp, aExt, aSetIx, aTru, sLen, sAny, sAll, sSum, sList, sTuple, fI, fC, fB, aSeqI, aRng1, aFor, aFrz, gN, aUnp, aLc, aYes, aCall, aRep, aRgT, turn, wipeA, br_true, br_false, List.map_nil, List.map_cons, List.nil_append, List.cons_append, List.replicate, List.getElem?_cons_zero, List.getElem?_cons_succ, List.set_cons_zero, List.set_cons_succ, List.length_cons, List.length_nil, sIn_int, sNotIn_int, sEq_int, sNe_int, sEq_bool, sNe_bool, sEq_str]
      exact kn
    refine cut1 [some (.dat (.list (ns.map PyData.int))), some (.own none (.lst (tape ns t l s))), some (.dat (.int p)), some (.dat (eR W)), none, some (.dat (eR Q)), some (.dat (.bool (meetB W Q))), none, none, some (.dat (eStale W Q)), none, none, none, none, none, none, none, none, none, none, none, none, none, none, none, none, none] (fun Kn kn => ?_) ?_
    · simp only [isN_stale, beq_self_eq_true, Bool.not_true, aName_eq, nm_dat, nm_own, dd_dat, dd_own, bb_bool, arg_dat, arg_own, arg_ali, das_nil, das_dat, cont_list, cont_tup, cont_own, cont_ali, contS_own, ownL_own, ownO_own, stor_dat, stor_own, iD_int, ii_int, i1_int, sAddU_int, sAddU_tup, truS_none, truS_bool, truS_int, truS_list, truS_tup, truS_ali, srcOf_list, srcOf_tup, srcOf_ali, Ab.got_some, gZ_nil, gC_cons, gT_tup, onlyDat_dat, notAli_dat, notAli_own, getO_some, fin_none, fin_some, finO_own, callA_nil, callA_dat, callA_ali, argS_none, argS_some, rt_ad, nx_ad, isN_none, isN_tup, notN_none, notN_tup, aNx, aRet, aIf, aSet, aAug, aDrop, aNever, aC, aBin, aBinR, aUn, aTst, aChain, aNot, aAnd, aOr, aIfE, aAndV, aOrV, aNotV, aNil, aCons, aTup, aLst, aCall1, aCallD, aIx, aApp, aExt, aSetIx, aTru, sLen, sAny, sAll, sSum, sList, sTuple, fI, fC, fB, aSeqI, aRng1, aFor, aFrz, gN, aUnp, aLc, aYes, aCall, aRep, aRgT, turn, wipeA, br_true, br_false, List.map_nil, List.map_cons, List.nil_append, List.cons_append, List.replicate, List.getElem?_cons_zero, List.getElem?_cons_succ, List.set_cons_zero, List.set_cons_succ, List.length_cons, List.length_nil, sIn_int, sNotIn_int, sEq_int, sNe_int, sEq_bool, sNe_bool, sEq_str]
      exact kn
    refine cut1 [some (.dat (.list (ns.map PyData.int))), some (.own none (.lst (tape ns t l s))), some (.dat (.int p)), some (.dat (eR W)), none, some (.dat (eR Q)), some (.dat (.bool (meetB W Q))), none, none, some (.dat (eStale W Q)), none, none, none, none, none, none, none, none, none, none, none, none, none, none, none, none, none] (fun Kn kn => ?_) ?_
    · cases hm : meetB W Q with
      | true =>
        simp only [notN_stale, hm, Bool.not_true, aName_eq, nm_dat, nm_own, dd_dat, dd_own, bb_bool, arg_dat, arg_own, arg_ali, das_nil, das_dat, cont_list, cont_tup, cont_own, cont_ali, contS_own, ownL_own, ownO_own, stor_dat, stor_own, iD_int, ii_int, i1_int, sAddU_int, sAddU_tup, truS_none, truS_bool, truS_int, truS_list, truS_tup, truS_ali, srcOf_list, srcOf_tup, srcOf_ali, Ab.got_some, gZ_nil, gC_cons, gT_tup, onlyDat_dat, notAli_dat, notAli_own, getO_some, fin_none, fin_some, finO_own, callA_nil, callA_dat, callA_ali, argS_none, argS_some, rt_ad, nx_ad, isN_none, isN_tup, notN_none, notN_tup, aNx, aRet, aIf, aSet, aAug, aDrop, aNever, aC, aBin, aBinR, aUn, aTst, aChain, aNot, aAnd, aOr, aIfE, aAndV, aOrV, aNotV, aNil, aCons, aTup, aLst, aCall1, aCallD, aIx, aApp, aExt, aSetIx, aTru, sLen, sAny, sAll, sSum, sList, sTuple, fI, fC, fB, aSeqI, aRng1, aFor, aFrz, gN, aUnp, aLc, aYes, aCall, aRep, aRgT, turn, wipeA, br_true, br_false, List.map_nil, List.map_cons, List.nil_append, List.cons_append, List.replicate, List.getElem?_cons_zero, List.getElem?_cons_succ, List.set_cons_zero, List.set_cons_succ, List.length_cons, List.length_nil, sIn_int, sNotIn_int, sEq_int, sNe_int, sEq_bool, sNe_bool, sEq_str]
        rw [hm] at kn
        exact kn
      | false =>
        obtain ⟨a, b, ha, hb, hh, e⟩ := stale_some hm
        rw [hm, e] at kn
        have hpl := stale_play hp0 (hW.each a ha) (hQ.each b hb) hh
        simp only [notN_stale, hm, Bool.not_false, e, aName_eq, nm_dat, nm_own, dd_dat, dd_own, bb_bool, arg_dat, arg_own, arg_ali, das_nil, das_dat, cont_list, cont_tup, cont_own, cont_ali, contS_own, ownL_own, ownO_own, stor_dat, stor_own, iD_int, ii_int, i1_int, sAddU_int, sAddU_tup, truS_none, truS_bool, truS_int, truS_list, truS_tup, truS_ali, srcOf_list, srcOf_tup, srcOf_ali, Ab.got_some, gZ_nil, gC_cons, gT_tup, onlyDat_dat, notAli_dat, notAli_own, getO_some, fin_none, fin_some, finO_own, callA_nil, callA_dat, callA_ali, argS_none, argS_some, rt_ad, nx_ad, isN_none, isN_tup, notN_none, notN_tup, aNx, aRet, aIf, aSet, aAug, aDrop, aNever, aC, aBin, aBinR, aUn, aTst, aChain, aNot, aAnd, aOr, aIfE, aAndV, aOrV, aNotV, aNil, aCons, aTup, aLst, aCall1, aCallD, aIx, aApp, aExt, aSetIx, aTru, sLen, sAny, sAll, sSum, sList, sTuple, fI, fC, fB, aSeqI, aRng1, aFor, aFrz, gN, aUnp, aLc, aYes, aCall, aRep, aRgT, turn, wipeA, br_true, br_false, List.map_nil, List.map_cons, List.nil_append, List.cons_append, List.replicate, List.getElem?_cons_zero, List.getElem?_cons_succ, List.set_cons_zero, List.set_cons_succ, List.length_cons, List.length_nil, sIn_int, sNotIn_int, sEq_int, sNe_int, sEq_bool, sNe_bool, sEq_str]
        have e2 : decide (((0 + 1 + 1 : Nat) : Int) = 2) = true := by decide
        simp only [e2, Bool.not_true, aName_eq, nm_dat, nm_own, dd_dat, dd_own, bb_bool, arg_dat, arg_own, arg_ali, das_nil, das_dat, cont_list, cont_tup, cont_own, cont_ali, contS_own, ownL_own, ownO_own, stor_dat, stor_own, iD_int, ii_int, i1_int, sAddU_int, sAddU_tup, truS_none, truS_bool, truS_int, truS_list, truS_tup, truS_ali, srcOf_list, srcOf_tup, srcOf_ali, Ab.got_some, gZ_nil, gC_cons, gT_tup, onlyDat_dat, notAli_dat, notAli_own, getO_some, fin_none, fin_some, finO_own, callA_nil, callA_dat, callA_ali, argS_none, argS_some, rt_ad, nx_ad, isN_none, isN_tup, notN_none, notN_tup, aNx, aRet, aIf, aSet, aAug, aDrop, aNever, aC, aBin, aBinR, aUn, aTst, aChain, aNot, aAnd, aOr, aIfE, aAndV, aOrV, aNotV, aNil, aCons, aTup, aLst, aCall1, aCallD, aIx, aApp, aExt, aSetIx, aTru, sLen, sAny, sAll, sSum, sList, sTuple, fI, fC, fB, aSeqI, aRng1, aFor, aFrz, gN, aUnp, aLc, aYes, aCall, aRep, aRgT, turn, wipeA, br_true, br_false, List.map_nil, List.map_cons, List.nil_append, List.cons_append, List.replicate, List.getElem?_cons_zero, List.getElem?_cons_succ, List.set_cons_zero, List.set_cons_succ, List.length_cons, List.length_nil, sIn_int, sNotIn_int, sEq_int, sNe_int, sEq_bool, sNe_bool, sEq_str]
        refine ⟨p, [(true, a), (false, b)], rfl, rfl, by omega, by omega, by simp, fun q hq => ?_, rfl, ?_⟩
        · rcases List.mem_cons.mp hq with rfl | hq
          · exact hW.each a ha
          · rw [List.mem_singleton.mp hq]
            exact hQ.each b hb
        · rw [hpl]
          simp only [eP, at_0, at_1, aName_eq, nm_dat, nm_own, dd_dat, dd_own, bb_bool, arg_dat, arg_own, arg_ali, das_nil, das_dat, cont_list, cont_tup, cont_own, cont_ali, contS_own, ownL_own, ownO_own, stor_dat, stor_own, iD_int, ii_int, i1_int, sAddU_int, sAddU_tup, truS_none, truS_bool, truS_int, truS_list, truS_tup, truS_ali, srcOf_list, srcOf_tup, srcOf_ali, Ab.got_some, gZ_nil, gC_cons, gT_tup, onlyDat_dat, notAli_dat, notAli_own, getO_some, fin_none, fin_some, finO_own, callA_nil, callA_dat, callA_ali, argS_none, argS_some, rt_ad, nx_ad, isN_none, isN_tup, notN_none, notN_tup, aNx, aRet, aIf, aSet, aAug, aDrop, aNever, aC, aBin, aBinR, aUn, aTst, aChain, aNot, aAnd, aOr, aIfE, aAndV, aOrV, aNotV, aNil, aCons, aTup, aLst, aCall1, aCallD, aIx, aApp, aExt, aSetIx, aTru, sLen, sAny, sAll, sSum, sList, sTuple, fI, fC, fB, aSeqI, aRng1, aFor, aFrz, gN, aUnp, aLc, aYes, aCall, aRep, aRgT, turn, wipeA, br_true, br_false, List.map_nil, List.map_cons, List.nil_append, List.cons_append, List.replicate, List.getElem?_cons_zero, List.getElem?_cons_succ, List.set_cons_zero, List.set_cons_succ, List.length_cons, List.length_nil, sIn_int, sNotIn_int, sEq_int, sNe_int, sEq_bool, sNe_bool, sEq_str]
          refine ⟨p, [(true, a), (false, b)], rfl, rfl, by omega, by omega, by simp, fun q hq => ?_, rfl, ?_⟩
          · rcases List.mem_cons.mp hq with rfl | hq
            · exact hW.each a ha
            · rw [List.mem_singleton.mp hq]
              exact hQ.each b hb
          · rw [hpl]
            have e3 : decide ((0 : Int) = 1) = false := by decide
            simp only [eP, at_0, at_1, e3, aName_eq, nm_dat, nm_own, dd_dat, dd_own, bb_bool, arg_dat, arg_own, arg_ali, das_nil, das_dat, cont_list, cont_tup, cont_own, cont_ali, contS_own, ownL_own, ownO_own, stor_dat, stor_own, iD_int, ii_int, i1_int, sAddU_int, sAddU_tup, truS_none, truS_bool, truS_int, truS_list, truS_tup, truS_ali, srcOf_list, srcOf_tup, srcOf_ali, Ab.got_some, gZ_nil, gC_cons, gT_tup, onlyDat_dat, notAli_dat, notAli_own, getO_some, fin_none, fin_some, finO_own, callA_nil, callA_dat, callA_ali, argS_none, argS_some, rt_ad, nx_ad, isN_none, isN_tup, notN_none, notN_tup, aNx, aRet, aIf, aSet, aAug, aDrop, aNever, aC, aBin, aBinR, aUn, aTst, aChain, aNot, aAnd, aOr, aIfE, aAndV, aOrV, aNotV, aNil, aCons, aTup, aLst, aCall1, aCallD, aIx, aApp, aExt, aSetIx, aTru, sLen, sAny, sAll, sSum, sList, sTuple, fI, fC, fB, aSeqI, aRng1, aFor, aFrz, gN, aUnp, aLc, aYes, aCall, aRep, aRgT, turn, wipeA, br_true, br_false, List.map_nil, List.map_cons, List.nil_append, List.cons_append, List.replicate, List.getElem?_cons_zero, List.getElem?_cons_succ, List.set_cons_zero, List.set_cons_succ, List.length_cons, List.length_nil, sIn_int, sNotIn_int, sEq_int, sNe_int, sEq_bool, sNe_bool, sEq_str]
            exact kn
    refine cut1 [some (.dat (.list (ns.map PyData.int))), some (.own none (.lst (tape ns t l s))), some (.dat (.int p)), some (.dat (eR W)), none, some (.dat (eR Q)), some (.dat (.bool (meetB W Q))), none, none, some (.dat (eStale W Q)), some (.own none (.lst [])), none, none, none, none, none, none, none, none, none, none, none, none, none, none, none, none] (fun Kn kn => ?_) ?_
    · simp only [aName_eq, nm_dat, nm_own, dd_dat, dd_own, bb_bool, arg_dat, arg_own, arg_ali, das_nil, das_dat, cont_list, cont_tup, cont_own, cont_ali, contS_own, ownL_own, ownO_own, stor_dat, stor_own, iD_int, ii_int, i1_int, sAddU_int, sAddU_tup, truS_none, truS_bool, truS_int, truS_list, truS_tup, truS_ali, srcOf_list, srcOf_tup, srcOf_ali, Ab.got_some, gZ_nil, gC_cons, gT_tup, onlyDat_dat, notAli_dat, notAli_own, getO_some, fin_none, fin_some, finO_own, callA_nil, callA_dat, callA_ali, argS_none, argS_some, rt_ad, nx_ad, isN_none, isN_tup, notN_none, notN_tup, aNx, aRet, aIf, aSet, aAug, aDrop, aNever, aC, aBin, aBinR, aUn, aTst, aChain, aNot, aAnd, aOr, aIfE, aAndV, aOrV, aNotV, aNil, aCons, aTup, aLst, aCall1, aCallD, aIx, aApp, aExt, aSetIx, aTru, sLen, sAny, sAll, sSum, sList, sTuple, fI, fC, fB, aSeqI, aRng1, aFor, aFrz, gN, aUnp, aLc, aYes, aCall, aRep, aRgT, turn, wipeA, br_true, br_false, List.map_nil, List.map_cons, List.nil_append, List.cons_append, List.replicate, List.getElem?_cons_zero, List.getElem?_cons_succ, List.set_cons_zero, List.set_cons_succ, List.length_cons, List.length_nil, sIn_int, sNotIn_int, sEq_int, sNe_int, sEq_bool, sNe_bool, sEq_str]
      exact ⟨small_le (by decide), kn⟩
    refine cut (fun ρ => ∃ (x4 : Option AV) (run : List (Bool × List Int)) (t l s : Int), NoOwn x4 ∧ run.length ≤ 14 ∧ (∀ q ∈ run, (q.1 = true → q.2 ∈ W) ∧ (q.1 = false → q.2 ∈ Q)) ∧ OkTape ns t l s ∧ ρ = [some (.dat (.list (ns.map PyData.int))), some (.own none (.lst (tape ns t l s))), some (.dat (.int p)), some (.dat (eR W)), x4, some (.dat (eR Q)), some (.dat (.bool (meetB W Q))), none, none, some (.dat (eStale W Q)), some (.own none (.lst (run.map eRun))), none, none, none, none, none, none, none, none, none, none, none, none, none, none, none, none]) (fun Kn kn => ?_) ?_
    · simp only [aName_eq, nm_dat, nm_own, dd_dat, dd_own, bb_bool, arg_dat, arg_own, arg_ali, das_nil, das_dat, cont_list, cont_tup, cont_own, cont_ali, contS_own, ownL_own, ownO_own, stor_dat, stor_own, iD_int, ii_int, i1_int, sAddU_int, sAddU_tup, truS_none, truS_bool, truS_int, truS_list, truS_tup, truS_ali, srcOf_list, srcOf_tup, srcOf_ali, Ab.got_some, gZ_nil, gC_cons, gT_tup, onlyDat_dat, notAli_dat, notAli_own, getO_some, fin_none, fin_some, finO_own, callA_nil, callA_dat, callA_ali, argS_none, argS_some, rt_ad, nx_ad, isN_none, isN_tup, notN_none, notN_tup, aNx, aRet, aIf, aSet, aAug, aDrop, aNever, aC, aBin, aBinR, aUn, aTst, aChain, aNot, aAnd, aOr, aIfE, aAndV, aOrV, aNotV, aNil, aCons, aTup, aLst, aCall1, aCallD, aIx, aApp, aExt, aSetIx, aTru, sLen, sAny, sAll, sSum, sList, sTuple, fI, fC, fB, aSeqI, aRng1, aFor, aFrz, gN, aUnp, aLc, aYes, aCall, aRep, aRgT, turn, wipeA, br_true, br_false, List.map_nil, List.map_cons, List.nil_append, List.cons_append, List.replicate, List.getElem?_cons_zero, List.getElem?_cons_succ, List.set_cons_zero, List.set_cons_succ, List.length_cons, List.length_nil, sIn_int, sNotIn_int, sEq_int, sNe_int, sEq_bool, sNe_bool, sEq_str]
      refine ⟨ns, t, l, s, 14, rfl, rfl, hT, by decide, by decide, fun r t' l' s' r0 r1 hT => ?_⟩
      simp only [aName_eq, nm_dat, nm_own, dd_dat, dd_own, bb_bool, arg_dat, arg_own, arg_ali, das_nil, das_dat, cont_list, cont_tup, cont_own, cont_ali, contS_own, ownL_own, ownO_own, stor_dat, stor_own, iD_int, ii_int, i1_int, sAddU_int, sAddU_tup, truS_none, truS_bool, truS_int, truS_list, truS_tup, truS_ali, srcOf_list, srcOf_tup, srcOf_ali, Ab.got_some, gZ_nil, gC_cons, gT_tup, onlyDat_dat, notAli_dat, notAli_own, getO_some, fin_none, fin_some, finO_own, callA_nil, callA_dat, callA_ali, argS_none, argS_some, rt_ad, nx_ad, isN_none, isN_tup, notN_none, notN_tup, aNx, aRet, aIf, aSet, aAug, aDrop, aNever, aC, aBin, aBinR, aUn, aTst, aChain, aNot, aAnd, aOr, aIfE, aAndV, aOrV, aNotV, aNil, aCons, aTup, aLst, aCall1, aCallD, aIx, aApp, aExt, aSetIx, aTru, sLen, sAny, sAll, sSum, sList, sTuple, fI, fC, fB, aSeqI, aRng1, aFor, aFrz, gN, aUnp, aLc, aYes, aCall, aRep, aRgT, turn, wipeA, br_true, br_false, List.map_nil, List.map_cons, List.nil_append, List.cons_append, List.replicate, List.getElem?_cons_zero, List.getElem?_cons_succ, List.set_cons_zero, List.set_cons_succ, List.length_cons, List.length_nil, sIn_int, sNotIn_int, sEq_int, sNe_int, sEq_bool, sNe_bool, sEq_str]
      refine ⟨by omega, by omega, trivial, fun _ => trivial, ?_⟩
      rw [rangeD0]
      refine for_inv (enc := fun (q : Nat) => PyData.int (q : Int)) (fun pre ρ => ∃ (x4 : Option AV) (run : List (Bool × List Int)) (t l s : Int), NoOwn x4 ∧ run.length = pre.length ∧ (∀ q ∈ run, (q.1 = true → q.2 ∈ W) ∧ (q.1 = false → q.2 ∈ Q)) ∧ OkTape ns t l s ∧ ρ = [some (.dat (.list (ns.map PyData.int))), some (.own none (.lst (tape ns t l s))), some (.dat (.int p)), some (.dat (eR W)), x4, some (.dat (eR Q)), some (.dat (.bool (meetB W Q))), none, none, some (.dat (eStale W Q)), some (.own none (.lst (run.map eRun))), none, none, none, none, none, none, none, none, none, none, none, none, none, none, none, none])
        ⟨none, [], t', l', s', trivial, rfl, fun _ z => (nomatch z), hT, rfl⟩ ?_ ?_
      · rintro pre x post e ρ ⟨x4, run, t, l, s, n4, g1, g2, g3, rfl⟩ Kn2 kn2
        have hpl : pre.length ≤ 14 := by
          have g := congrArg List.length e
          rw [List.length_range, List.length_append] at g
          omega
        have hW1 := hW.one
        have hQ1 := hQ.one
        have add : ∀ (q : Bool × List Int), ((q.1 = true → q.2 ∈ W) ∧ (q.1 = false → q.2 ∈ Q)) → ∀ v ∈ run ++ [q], (v.1 = true → v.2 ∈ W) ∧ (v.1 = false → v.2 ∈ Q) := fun q hq v hv => by
          rcases List.mem_append.mp hv with hv | hv
          · exact g2 v hv
          · rw [List.mem_singleton.mp hv]
            exact hq
        simp only [aName_eq, nm_dat, nm_own, dd_dat, dd_own, bb_bool, arg_dat, arg_own, arg_ali, das_nil, das_dat, cont_list, cont_tup, cont_own, cont_ali, contS_own, ownL_own, ownO_own, stor_dat, stor_own, iD_int, ii_int, i1_int, sAddU_int, sAddU_tup, truS_none, truS_bool, truS_int, truS_list, truS_tup, truS_ali, srcOf_list, srcOf_tup, srcOf_ali, Ab.got_some, gZ_nil, gC_cons, gT_tup, onlyDat_dat, notAli_dat, notAli_own, getO_some, fin_none, fin_some, finO_own, callA_nil, callA_dat, callA_ali, argS_none, argS_some, rt_ad, nx_ad, isN_none, isN_tup, notN_none, notN_tup, aNx, aRet, aIf, aSet, aAug, aDrop, aNever, aC, aBin, aBinR, aUn, aTst, aChain, aNot, aAnd, aOr, aIfE, aAndV, aOrV, aNotV, aNil, aCons, aTup, aLst, aCall1, aCallD, aIx, aApp, aExt, aSetIx, aTru, sLen, sAny, sAll, sSum, sList, sTuple, fI, fC, fB, aSeqI, aRng1, aFor, aFrz, gN, aUnp, aLc, aYes, aCall, aRep, aRgT, turn, wipeA, br_true, br_false, List.map_nil, List.map_cons, List.nil_append, List.cons_append, List.replicate, List.getElem?_cons_zero, List.getElem?_cons_succ, List.set_cons_zero, List.set_cons_succ, List.length_cons, List.length_nil, sIn_int, sNotIn_int, sEq_int, sNe_int, sEq_bool, sNe_bool, sEq_str]
        refine ⟨ns, t, l, s, 2, rfl, rfl, g3, by decide, by decide, fun r t' l' s' r0 r1 hT' => ?_⟩
        simp only [aName_eq, nm_dat, nm_own, dd_dat, dd_own, bb_bool, arg_dat, arg_own, arg_ali, das_nil, das_dat, cont_list, cont_tup, cont_own, cont_ali, contS_own, ownL_own, ownO_own, stor_dat, stor_own, iD_int, ii_int, i1_int, sAddU_int, sAddU_tup, truS_none, truS_bool, truS_int, truS_list, truS_tup, truS_ali, srcOf_list, srcOf_tup, srcOf_ali, Ab.got_some, gZ_nil, gC_cons, gT_tup, onlyDat_dat, notAli_dat, notAli_own, getO_some, fin_none, fin_some, finO_own, callA_nil, callA_dat, callA_ali, argS_none, argS_some, rt_ad, nx_ad, isN_none, isN_tup, notN_none, notN_tup, aNx, aRet, aIf, aSet, aAug, aDrop, aNever, aC, aBin, aBinR, aUn, aTst, aChain, aNot, aAnd, aOr, aIfE, aAndV, aOrV, aNotV, aNil, aCons, aTup, aLst, aCall1, aCallD, aIx, aApp, aExt, aSetIx, aTru, sLen, sAny, sAll, sSum, sList, sTuple, fI, fC, fB, aSeqI, aRng1, aFor, aFrz, gN, aUnp, aLc, aYes, aCall, aRep, aRgT, turn, wipeA, br_true, br_false, List.map_nil, List.map_cons, List.nil_append, List.cons_append, List.replicate, List.getElem?_cons_zero, List.getElem?_cons_succ, List.set_cons_zero, List.set_cons_succ, List.length_cons, List.length_nil, sIn_int, sNotIn_int, sEq_int, sNe_int, sEq_bool, sNe_bool, sEq_str]
        refine ⟨fun hh => ?_, fun hh => ?_⟩
        · simp only [eR, List.length_map, aName_eq, nm_dat, nm_own, dd_dat, dd_own, bb_bool, arg_dat, arg_own, arg_ali, das_nil, das_dat, cont_list, cont_tup, cont_own, cont_ali, contS_own, ownL_own, ownO_own, stor_dat, stor_own, iD_int, ii_int, i1_int, sAddU_int, sAddU_tup, truS_none, truS_bool, truS_int, truS_list, truS_tup, truS_ali, srcOf_list, srcOf_tup, srcOf_ali, Ab.got_some, gZ_nil, gC_cons, gT_tup, onlyDat_dat, notAli_dat, notAli_own, getO_some, fin_none, fin_some, finO_own, callA_nil, callA_dat, callA_ali, argS_none, argS_some, rt_ad, nx_ad, isN_none, isN_tup, notN_none, notN_tup, aNx, aRet, aIf, aSet, aAug, aDrop, aNever, aC, aBin, aBinR, aUn, aTst, aChain, aNot, aAnd, aOr, aIfE, aAndV, aOrV, aNotV, aNil, aCons, aTup, aLst, aCall1, aCallD, aIx, aApp, aExt, aSetIx, aTru, sLen, sAny, sAll, sSum, sList, sTuple, fI, fC, fB, aSeqI, aRng1, aFor, aFrz, gN, aUnp, aLc, aYes, aCall, aRep, aRgT, turn, wipeA, br_true, br_false, List.map_nil, List.map_cons, List.nil_append, List.cons_append, List.replicate, List.getElem?_cons_zero, List.getElem?_cons_succ, List.set_cons_zero, List.set_cons_succ, List.length_cons, List.length_nil, sIn_int, sNotIn_int, sEq_int, sNe_int, sEq_bool, sNe_bool, sEq_str]
          refine ⟨ns, t', l', s', W.length, rfl, rfl, hT', by omega, by omega, fun r t' l' s' r0 r1 hT' => ?_⟩
          have hk : r.toNat < W.length := by omega
          have ea : atI (W.map tI) r = some (tI W[r.toNat]) := by
            have g := atI_map tI hk
            rwa [Int.toNat_of_nonneg r0] at g
          simp only [ea, aName_eq, nm_dat, nm_own, dd_dat, dd_own, bb_bool, arg_dat, arg_own, arg_ali, das_nil, das_dat, cont_list, cont_tup, cont_own, cont_ali, contS_own, ownL_own, ownO_own, stor_dat, stor_own, iD_int, ii_int, i1_int, sAddU_int, sAddU_tup, truS_none, truS_bool, truS_int, truS_list, truS_tup, truS_ali, srcOf_list, srcOf_tup, srcOf_ali, Ab.got_some, gZ_nil, gC_cons, gT_tup, onlyDat_dat, notAli_dat, notAli_own, getO_some, fin_none, fin_some, finO_own, callA_nil, callA_dat, callA_ali, argS_none, argS_some, rt_ad, nx_ad, isN_none, isN_tup, notN_none, notN_tup, aNx, aRet, aIf, aSet, aAug, aDrop, aNever, aC, aBin, aBinR, aUn, aTst, aChain, aNot, aAnd, aOr, aIfE, aAndV, aOrV, aNotV, aNil, aCons, aTup, aLst, aCall1, aCallD, aIx, aApp, aExt, aSetIx, aTru, sLen, sAny, sAll, sSum, sList, sTuple, fI, fC, fB, aSeqI, aRng1, aFor, aFrz, gN, aUnp, aLc, aYes, aCall, aRep, aRgT, turn, wipeA, br_true, br_false, List.map_nil, List.map_cons, List.nil_append, List.cons_append, List.replicate, List.getElem?_cons_zero, List.getElem?_cons_succ, List.set_cons_zero, List.set_cons_succ, List.length_cons, List.length_nil, sIn_int, sNotIn_int, sEq_int, sNe_int, sEq_bool, sNe_bool, sEq_str]
          refine ⟨small_le (by decide), small_len (by omega), kn2 _ ⟨some (.dat (.int x)), run ++ [(true, W[r.toNat])], t', l', s', trivial, by simp [g1], add _ ⟨fun _ => List.getElem_mem hk, fun z => (nomatch z)⟩, hT', ?_⟩⟩
          rw [List.map_append]
          rfl
        · simp only [eR, List.length_map, aName_eq, nm_dat, nm_own, dd_dat, dd_own, bb_bool, arg_dat, arg_own, arg_ali, das_nil, das_dat, cont_list, cont_tup, cont_own, cont_ali, contS_own, ownL_own, ownO_own, stor_dat, stor_own, iD_int, ii_int, i1_int, sAddU_int, sAddU_tup, truS_none, truS_bool, truS_int, truS_list, truS_tup, truS_ali, srcOf_list, srcOf_tup, srcOf_ali, Ab.got_some, gZ_nil, gC_cons, gT_tup, onlyDat_dat, notAli_dat, notAli_own, getO_some, fin_none, fin_some, finO_own, callA_nil, callA_dat, callA_ali, argS_none, argS_some, rt_ad, nx_ad, isN_none, isN_tup, notN_none, notN_tup, aNx, aRet, aIf, aSet, aAug, aDrop, aNever, aC, aBin, aBinR, aUn, aTst, aChain, aNot, aAnd, aOr, aIfE, aAndV, aOrV, aNotV, aNil, aCons, aTup, aLst, aCall1, aCallD, aIx, aApp, aExt, aSetIx, aTru, sLen, sAny, sAll, sSum, sList, sTuple, fI, fC, fB, aSeqI, aRng1, aFor, aFrz, gN, aUnp, aLc, aYes, aCall, aRep, aRgT, turn, wipeA, br_true, br_false, List.map_nil, List.map_cons, List.nil_append, List.cons_append, List.replicate, List.getElem?_cons_zero, List.getElem?_cons_succ, List.set_cons_zero, List.set_cons_succ, List.length_cons, List.length_nil, sIn_int, sNotIn_int, sEq_int, sNe_int, sEq_bool, sNe_bool, sEq_str]
          refine ⟨ns, t', l', s', Q.length, rfl, rfl, hT', by omega, by omega, fun r t' l' s' r0 r1 hT' => ?_⟩
          have hk : r.toNat < Q.length := by omega
          have ea : atI (Q.map tI) r = some (tI Q[r.toNat]) := by
            have g := atI_map tI hk
            rwa [Int.toNat_of_nonneg r0] at g
          simp only [ea, aName_eq, nm_dat, nm_own, dd_dat, dd_own, bb_bool, arg_dat, arg_own, arg_ali, das_nil, das_dat, cont_list, cont_tup, cont_own, cont_ali, contS_own, ownL_own, ownO_own, stor_dat, stor_own, iD_int, ii_int, i1_int, sAddU_int, sAddU_tup, truS_none, truS_bool, truS_int, truS_list, truS_tup, truS_ali, srcOf_list, srcOf_tup, srcOf_ali, Ab.got_some, gZ_nil, gC_cons, gT_tup, onlyDat_dat, notAli_dat, notAli_own, getO_some, fin_none, fin_some, finO_own, callA_nil, callA_dat, callA_ali, argS_none, argS_some, rt_ad, nx_ad, isN_none, isN_tup, notN_none, notN_tup, aNx, aRet, aIf, aSet, aAug, aDrop, aNever, aC, aBin, aBinR, aUn, aTst, aChain, aNot, aAnd, aOr, aIfE, aAndV, aOrV, aNotV, aNil, aCons, aTup, aLst, aCall1, aCallD, aIx, aApp, aExt, aSetIx, aTru, sLen, sAny, sAll, sSum, sList, sTuple, fI, fC, fB, aSeqI, aRng1, aFor, aFrz, gN, aUnp, aLc, aYes, aCall, aRep, aRgT, turn, wipeA, br_true, br_false, List.map_nil, List.map_cons, List.nil_append, List.cons_append, List.replicate, List.getElem?_cons_zero, List.getElem?_cons_succ, List.set_cons_zero, List.set_cons_succ, List.length_cons, List.length_nil, sIn_int, sNotIn_int, sEq_int, sNe_int, sEq_bool, sNe_bool, sEq_str]
          refine ⟨small_le (by decide), small_len (by omega), kn2 _ ⟨some (.dat (.int x)), run ++ [(false, Q[r.toNat])], t', l', s', trivial, by simp [g1], add _ ⟨fun z => (nomatch z), fun _ => List.getElem_mem hk⟩, hT', ?_⟩⟩
          rw [List.map_append]
          rfl
      · rintro ρ ⟨x4, run, t, l, s, n4, g1, g2, g3, rfl⟩
        rw [List.length_range] at g1
        exact kn _ ⟨x4, run, t, l, s, n4, by omega, g2, g3, rfl⟩
    rintro ρ ⟨x4, run, t, l, s, n4, rl, hrun, hT, rfl⟩
    have hrs : ∀ q ∈ run, OkSet p q.2 := fun q hq => by
      obtain ⟨b, row⟩ := q
      cases b with
      | true => exact hW.each _ ((hrun _ hq).1 rfl)
      | false => exact hQ.each _ ((hrun _ hq).2 rfl)
    have hfew : (playF p run).length ≤ 14 := by
      have g := (okP_all run (okP0 p) fun q hq => (hrs q hq).rng).few
      have g2 : (playF p run).length ≤ 0 + run.length := g
      omega
    refine cut1 [some (.dat (.list (ns.map PyData.int))), some (.own none (.lst (tape ns t l s))), some (.dat (.int p)), some (.dat (eR W)), x4, some (.dat (eR Q)), some (.dat (.bool (meetB W Q))), none, none, some (.dat (eStale W Q)), some (.own none (.lst (run.map eRun))), some (.dat (.tuple ((playF p run).map eP))), none, none, none, none, none, none, none, none, none, none, none, none, none, none, none] (fun Kn kn => ?_) ?_
    · simp only [aName_eq, nm_dat, nm_own, dd_dat, dd_own, bb_bool, arg_dat, arg_own, arg_ali, das_nil, das_dat, cont_list, cont_tup, cont_own, cont_ali, contS_own, ownL_own, ownO_own, stor_dat, stor_own, iD_int, ii_int, i1_int, sAddU_int, sAddU_tup, truS_none, truS_bool, truS_int, truS_list, truS_tup, truS_ali, srcOf_list, srcOf_tup, srcOf_ali, Ab.got_some, gZ_nil, gC_cons, gT_tup, onlyDat_dat, notAli_dat, notAli_own, getO_some, fin_none, fin_some, finO_own, callA_nil, callA_dat, callA_ali, argS_none, argS_some, rt_ad, nx_ad, isN_none, isN_tup, notN_none, notN_tup, aNx, aRet, aIf, aSet, aAug, aDrop, aNever, aC, aBin, aBinR, aUn, aTst, aChain, aNot, aAnd, aOr, aIfE, aAndV, aOrV, aNotV, aNil, aCons, aTup, aLst, aCall1, aCallD, aIx, aApp, aExt, aSetIx, aTru, sLen, sAny, sAll, sSum, sList, sTuple, fI, fC, fB, aSeqI, aRng1, aFor, aFrz, gN, aUnp, aLc, aYes, aCall, aRep, aRgT, turn, wipeA, br_true, br_false, List.map_nil, List.map_cons, List.nil_append, List.cons_append, List.replicate, List.getElem?_cons_zero, List.getElem?_cons_succ, List.set_cons_zero, List.set_cons_succ, List.length_cons, List.length_nil, sIn_int, sNotIn_int, sEq_int, sNe_int, sEq_bool, sNe_bool, sEq_str]
      refine ⟨p, run, rfl, rfl, by omega, by omega, by omega, hrs, rfl, ?_⟩
      simp only [aName_eq, nm_dat, nm_own, dd_dat, dd_own, bb_bool, arg_dat, arg_own, arg_ali, das_nil, das_dat, cont_list, cont_tup, cont_own, cont_ali, contS_own, ownL_own, ownO_own, stor_dat, stor_own, iD_int, ii_int, i1_int, sAddU_int, sAddU_tup, truS_none, truS_bool, truS_int, truS_list, truS_tup, truS_ali, srcOf_list, srcOf_tup, srcOf_ali, Ab.got_some, gZ_nil, gC_cons, gT_tup, onlyDat_dat, notAli_dat, notAli_own, getO_some, fin_none, fin_some, finO_own, callA_nil, callA_dat, callA_ali, argS_none, argS_some, rt_ad, nx_ad, isN_none, isN_tup, notN_none, notN_tup, aNx, aRet, aIf, aSet, aAug, aDrop, aNever, aC, aBin, aBinR, aUn, aTst, aChain, aNot, aAnd, aOr, aIfE, aAndV, aOrV, aNotV, aNil, aCons, aTup, aLst, aCall1, aCallD, aIx, aApp, aExt, aSetIx, aTru, sLen, sAny, sAll, sSum, sList, sTuple, fI, fC, fB, aSeqI, aRng1, aFor, aFrz, gN, aUnp, aLc, aYes, aCall, aRep, aRgT, turn, wipeA, br_true, br_false, List.map_nil, List.map_cons, List.nil_append, List.cons_append, List.replicate, List.getElem?_cons_zero, List.getElem?_cons_succ, List.set_cons_zero, List.set_cons_succ, List.length_cons, List.length_nil, sIn_int, sNotIn_int, sEq_int, sNe_int, sEq_bool, sNe_bool, sEq_str]
      exact kn
    refine cut1 [some (.dat (.list (ns.map PyData.int))), some (.own none (.lst (tape ns t l s))), some (.dat (.int p)), some (.dat (eR W)), x4, some (.dat (eR Q)), some (.dat (.bool (meetB W Q))), none, none, some (.dat (eStale W Q)), some (.own none (.lst (run.map eRun))), some (.dat (.tuple ((playF p run).map eP))), none, none, none, none, none, none, none, none, none, none, none, none, none, none, none] (fun Kn kn => ?_) ?_
    · cases hm : meetB W Q with
      | false =>
        rw [hm] at kn
        simp only [aName_eq, nm_dat, nm_own, dd_dat, dd_own, bb_bool, arg_dat, arg_own, arg_ali, das_nil, das_dat, cont_list, cont_tup, cont_own, cont_ali, contS_own, ownL_own, ownO_own, stor_dat, stor_own, iD_int, ii_int, i1_int, sAddU_int, sAddU_tup, truS_none, truS_bool, truS_int, truS_list, truS_tup, truS_ali, srcOf_list, srcOf_tup, srcOf_ali, Ab.got_some, gZ_nil, gC_cons, gT_tup, onlyDat_dat, notAli_dat, notAli_own, getO_some, fin_none, fin_some, finO_own, callA_nil, callA_dat, callA_ali, argS_none, argS_some, rt_ad, nx_ad, isN_none, isN_tup, notN_none, notN_tup, aNx, aRet, aIf, aSet, aAug, aDrop, aNever, aC, aBin, aBinR, aUn, aTst, aChain, aNot, aAnd, aOr, aIfE, aAndV, aOrV, aNotV, aNil, aCons, aTup, aLst, aCall1, aCallD, aIx, aApp, aExt, aSetIx, aTru, sLen, sAny, sAll, sSum, sList, sTuple, fI, fC, fB, aSeqI, aRng1, aFor, aFrz, gN, aUnp, aLc, aYes, aCall, aRep, aRgT, turn, wipeA, br_true, br_false, List.map_nil, List.map_cons, List.nil_append, List.cons_append, List.replicate, List.getElem?_cons_zero, List.getElem?_cons_succ, List.set_cons_zero, List.set_cons_succ, List.length_cons, List.length_nil, sIn_int, sNotIn_int, sEq_int, sNe_int, sEq_bool, sNe_bool, sEq_str]
        exact kn
      | true =>
        rw [hm] at kn
        simp only [aName_eq, nm_dat, nm_own, dd_dat, dd_own, bb_bool, arg_dat, arg_own, arg_ali, das_nil, das_dat, cont_list, cont_tup, cont_own, cont_ali, contS_own, ownL_own, ownO_own, stor_dat, stor_own, iD_int, ii_int, i1_int, sAddU_int, sAddU_tup, truS_none, truS_bool, truS_int, truS_list, truS_tup, truS_ali, srcOf_list, srcOf_tup, srcOf_ali, Ab.got_some, gZ_nil, gC_cons, gT_tup, onlyDat_dat, notAli_dat, notAli_own, getO_some, fin_none, fin_some, finO_own, callA_nil, callA_dat, callA_ali, argS_none, argS_some, rt_ad, nx_ad, isN_none, isN_tup, notN_none, notN_tup, aNx, aRet, aIf, aSet, aAug, aDrop, aNever, aC, aBin, aBinR, aUn, aTst, aChain, aNot, aAnd, aOr, aIfE, aAndV, aOrV, aNotV, aNil, aCons, aTup, aLst, aCall1, aCallD, aIx, aApp, aExt, aSetIx, aTru, sLen, sAny, sAll, sSum, sList, sTuple, fI, fC, fB, aSeqI, aRng1, aFor, aFrz, gN, aUnp, aLc, aYes, aCall, aRep, aRgT, turn, wipeA, br_true, br_false, List.map_nil, List.map_cons, List.nil_append, List.cons_append, List.replicate, List.getElem?_cons_zero, List.getElem?_cons_succ, List.set_cons_zero, List.set_cons_succ, List.length_cons, List.length_nil, sIn_int, sNotIn_int, sEq_int, sNe_int, sEq_bool, sNe_bool, sEq_str]
        refine lc_pure (enc := eP) (fun f => !decide (f.1 = f.2)) (fun _ => .int 1) trivial (by simp [Ab.freeOf]) (small_len (by omega)) (fun f hf Ka Ks ka ks => ?_) ?_
        · simp only [eP, aName_eq, nm_dat, nm_own, dd_dat, dd_own, bb_bool, arg_dat, arg_own, arg_ali, das_nil, das_dat, cont_list, cont_tup, cont_own, cont_ali, contS_own, ownL_own, ownO_own, stor_dat, stor_own, iD_int, ii_int, i1_int, sAddU_int, sAddU_tup, truS_none, truS_bool, truS_int, truS_list, truS_tup, truS_ali, srcOf_list, srcOf_tup, srcOf_ali, Ab.got_some, gZ_nil, gC_cons, gT_tup, onlyDat_dat, notAli_dat, notAli_own, getO_some, fin_none, fin_some, finO_own, callA_nil, callA_dat, callA_ali, argS_none, argS_some, rt_ad, nx_ad, isN_none, isN_tup, notN_none, notN_tup, aNx, aRet, aIf, aSet, aAug, aDrop, aNever, aC, aBin, aBinR, aUn, aTst, aChain, aNot, aAnd, aOr, aIfE, aAndV, aOrV, aNotV, aNil, aCons, aTup, aLst, aCall1, aCallD, aIx, aApp, aExt, aSetIx, aTru, sLen, sAny, sAll, sSum, sList, sTuple, fI, fC, fB, aSeqI, aRng1, aFor, aFrz, gN, aUnp, aLc, aYes, aCall, aRep, aRgT, turn, wipeA, br_true, br_false, List.map_nil, List.map_cons, List.nil_append, List.cons_append, List.replicate, List.getElem?_cons_zero, List.getElem?_cons_succ, List.set_cons_zero, List.set_cons_succ, List.length_cons, List.length_nil, sIn_int, sNotIn_int, sEq_int, sNe_int, sEq_bool, sNe_bool, sEq_str]
          exact ⟨trivial, ka, ks⟩
        · have e2 : ((playF p run).any fun f => !decide (f.1 = f.2)) = false := by
            rw [List.any_eq_false]
            intro f hf
            simp [play_eq hm hW.each hQ.each hrun f hf]
          simp only [List.length_map, lenP, e2, aName_eq, nm_dat, nm_own, dd_dat, dd_own, bb_bool, arg_dat, arg_own, arg_ali, das_nil, das_dat, cont_list, cont_tup, cont_own, cont_ali, contS_own, ownL_own, ownO_own, stor_dat, stor_own, iD_int, ii_int, i1_int, sAddU_int, sAddU_tup, truS_none, truS_bool, truS_int, truS_list, truS_tup, truS_ali, srcOf_list, srcOf_tup, srcOf_ali, Ab.got_some, gZ_nil, gC_cons, gT_tup, onlyDat_dat, notAli_dat, notAli_own, getO_some, fin_none, fin_some, finO_own, callA_nil, callA_dat, callA_ali, argS_none, argS_some, rt_ad, nx_ad, isN_none, isN_tup, notN_none, notN_tup, aNx, aRet, aIf, aSet, aAug, aDrop, aNever, aC, aBin, aBinR, aUn, aTst, aChain, aNot, aAnd, aOr, aIfE, aAndV, aOrV, aNotV, aNil, aCons, aTup, aLst, aCall1, aCallD, aIx, aApp, aExt, aSetIx, aTru, sLen, sAny, sAll, sSum, sList, sTuple, fI, fC, fB, aSeqI, aRng1, aFor, aFrz, gN, aUnp, aLc, aYes, aCall, aRep, aRgT, turn, wipeA, br_true, br_false, List.map_nil, List.map_cons, List.nil_append, List.cons_append, List.replicate, List.getElem?_cons_zero, List.getElem?_cons_succ, List.set_cons_zero, List.set_cons_succ, List.length_cons, List.length_nil, sIn_int, sNotIn_int, sEq_int, sNe_int, sEq_bool, sNe_bool, sEq_str]
          exact kn
    refine cut1 [some (.dat (.list (ns.map PyData.int))), some (.own none (.lst (tape ns t l s))), some (.dat (.int p)), some (.dat (eR W)), x4, some (.dat (eR Q)), some (.dat (.bool (meetB W Q))), none, none, some (.dat (eStale W Q)), some (.own none (.lst (run.map eRun))), some (.dat (.tuple ((playF p run).map eP))), none, none, none, none, none, none, none, none, none, none, none, none, none, none, none] (fun Kn kn => ?_) ?_
    · simp only [aName_eq, nm_dat, nm_own, dd_dat, dd_own, bb_bool, arg_dat, arg_own, arg_ali, das_nil, das_dat, cont_list, cont_tup, cont_own, cont_ali, contS_own, ownL_own, ownO_own, stor_dat, stor_own, iD_int, ii_int, i1_int, sAddU_int, sAddU_tup, truS_none, truS_bool, truS_int, truS_list, truS_tup, truS_ali, srcOf_list, srcOf_tup, srcOf_ali, Ab.got_some, gZ_nil, gC_cons, gT_tup, onlyDat_dat, notAli_dat, notAli_own, getO_some, fin_none, fin_some, finO_own, callA_nil, callA_dat, callA_ali, argS_none, argS_some, rt_ad, nx_ad, isN_none, isN_tup, notN_none, notN_tup, aNx, aRet, aIf, aSet, aAug, aDrop, aNever, aC, aBin, aBinR, aUn, aTst, aChain, aNot, aAnd, aOr, aIfE, aAndV, aOrV, aNotV, aNil, aCons, aTup, aLst, aCall1, aCallD, aIx, aApp, aExt, aSetIx, aTru, sLen, sAny, sAll, sSum, sList, sTuple, fI, fC, fB, aSeqI, aRng1, aFor, aFrz, gN, aUnp, aLc, aYes, aCall, aRep, aRgT, turn, wipeA, br_true, br_false, List.map_nil, List.map_cons, List.nil_append, List.cons_append, List.replicate, List.getElem?_cons_zero, List.getElem?_cons_succ, List.set_cons_zero, List.set_cons_succ, List.length_cons, List.length_nil, sIn_int, sNotIn_int, sEq_int, sNe_int, sEq_bool, sNe_bool, sEq_str]
      refine lc_pure (enc := eP) (fun f => decide (f.2 < f.1)) (fun _ => .int 1) trivial (by simp [Ab.freeOf]) (small_len (by omega)) (fun f hf Ka Ks ka ks => ?_) ?_
      · simp only [eP, aName_eq, nm_dat, nm_own, dd_dat, dd_own, bb_bool, arg_dat, arg_own, arg_ali, das_nil, das_dat, cont_list, cont_tup, cont_own, cont_ali, contS_own, ownL_own, ownO_own, stor_dat, stor_own, iD_int, ii_int, i1_int, sAddU_int, sAddU_tup, truS_none, truS_bool, truS_int, truS_list, truS_tup, truS_ali, srcOf_list, srcOf_tup, srcOf_ali, Ab.got_some, gZ_nil, gC_cons, gT_tup, onlyDat_dat, notAli_dat, notAli_own, getO_some, fin_none, fin_some, finO_own, callA_nil, callA_dat, callA_ali, argS_none, argS_some, rt_ad, nx_ad, isN_none, isN_tup, notN_none, notN_tup, aNx, aRet, aIf, aSet, aAug, aDrop, aNever, aC, aBin, aBinR, aUn, aTst, aChain, aNot, aAnd, aOr, aIfE, aAndV, aOrV, aNotV, aNil, aCons, aTup, aLst, aCall1, aCallD, aIx, aApp, aExt, aSetIx, aTru, sLen, sAny, sAll, sSum, sList, sTuple, fI, fC, fB, aSeqI, aRng1, aFor, aFrz, gN, aUnp, aLc, aYes, aCall, aRep, aRgT, turn, wipeA, br_true, br_false, List.map_nil, List.map_cons, List.nil_append, List.cons_append, List.replicate, List.getElem?_cons_zero, List.getElem?_cons_succ, List.set_cons_zero, List.set_cons_succ, List.length_cons, List.length_nil, sIn_int, sNotIn_int, sEq_int, sNe_int, sEq_bool, sNe_bool, sEq_str]
        exact ⟨trivial, ka, ks⟩
      · have e2 : ((playF p run).any fun f => decide (f.2 < f.1)) = false := by
          rw [List.any_eq_false]
          intro f hf
          have := play_le hrs f hf
          simp
          omega
        simp only [List.length_map, lenP, e2, aName_eq, nm_dat, nm_own, dd_dat, dd_own, bb_bool, arg_dat, arg_own, arg_ali, das_nil, das_dat, cont_list, cont_tup, cont_own, cont_ali, contS_own, ownL_own, ownO_own, stor_dat, stor_own, iD_int, ii_int, i1_int, sAddU_int, sAddU_tup, truS_none, truS_bool, truS_int, truS_list, truS_tup, truS_ali, srcOf_list, srcOf_tup, srcOf_ali, Ab.got_some, gZ_nil, gC_cons, gT_tup, onlyDat_dat, notAli_dat, notAli_own, getO_some, fin_none, fin_some, finO_own, callA_nil, callA_dat, callA_ali, argS_none, argS_some, rt_ad, nx_ad, isN_none, isN_tup, notN_none, notN_tup, aNx, aRet, aIf, aSet, aAug, aDrop, aNever, aC, aBin, aBinR, aUn, aTst, aChain, aNot, aAnd, aOr, aIfE, aAndV, aOrV, aNotV, aNil, aCons, aTup, aLst, aCall1, aCallD, aIx, aApp, aExt, aSetIx, aTru, sLen, sAny, sAll, sSum, sList, sTuple, fI, fC, fB, aSeqI, aRng1, aFor, aFrz, gN, aUnp, aLc, aYes, aCall, aRep, aRgT, turn, wipeA, br_true, br_false, List.map_nil, List.map_cons, List.nil_append, List.cons_append, List.replicate, List.getElem?_cons_zero, List.getElem?_cons_succ, List.set_cons_zero, List.set_cons_succ, List.length_cons, List.length_nil, sIn_int, sNotIn_int, sEq_int, sNe_int, sEq_bool, sNe_bool, sEq_str]
        exact kn
    refine cut1 [some (.dat (.list (ns.map PyData.int))), some (.own none (.lst (tape ns t l s))), some (.dat (.int p)), some (.dat (eR W)), x4, some (.dat (eR Q)), some (.dat (.bool (meetB W Q))), none, none, some (.dat (eStale W Q)), some (.own none (.lst (run.map eRun))), some (.dat (.tuple ((playF p run).map eP))), none, none, some (.dat (eClash W Q)), none, none, none, none, none, none, none, none, none, none, none, none] (fun Kn kn => ?_) ?_
    · simp only [aName_eq, nm_dat, nm_own, dd_dat, dd_own, bb_bool, arg_dat, arg_own, arg_ali, das_nil, das_dat, cont_list, cont_tup, cont_own, cont_ali, contS_own, ownL_own, ownO_own, stor_dat, stor_own, iD_int, ii_int, i1_int, sAddU_int, sAddU_tup, truS_none, truS_bool, truS_int, truS_list, truS_tup, truS_ali, srcOf_list, srcOf_tup, srcOf_ali, Ab.got_some, gZ_nil, gC_cons, gT_tup, onlyDat_dat, notAli_dat, notAli_own, getO_some, fin_none, fin_some, finO_own, callA_nil, callA_dat, callA_ali, argS_none, argS_some, rt_ad, nx_ad, isN_none, isN_tup, notN_none, notN_tup, aNx, aRet, aIf, aSet, aAug, aDrop, aNever, aC, aBin, aBinR, aUn, aTst, aChain, aNot, aAnd, aOr, aIfE, aAndV, aOrV, aNotV, aNil, aCons, aTup, aLst, aCall1, aCallD, aIx, aApp, aExt, aSetIx, aTru, sLen, sAny, sAll, sSum, sList, sTuple, fI, fC, fB, aSeqI, aRng1, aFor, aFrz, gN, aUnp, aLc, aYes, aCall, aRep, aRgT, turn, wipeA, br_true, br_false, List.map_nil, List.map_cons, List.nil_append, List.cons_append, List.replicate, List.getElem?_cons_zero, List.getElem?_cons_succ, List.set_cons_zero, List.set_cons_succ, List.length_cons, List.length_nil, sIn_int, sNotIn_int, sEq_int, sNe_int, sEq_bool, sNe_bool, sEq_str]
      refine ⟨p, W, Q, rfl, rfl, hW, hQ, rfl, ?_⟩
      simp only [aName_eq, nm_dat, nm_own, dd_dat, dd_own, bb_bool, arg_dat, arg_own, arg_ali, das_nil, das_dat, cont_list, cont_tup, cont_own, cont_ali, contS_own, ownL_own, ownO_own, stor_dat, stor_own, iD_int, ii_int, i1_int, sAddU_int, sAddU_tup, truS_none, truS_bool, truS_int, truS_list, truS_tup, truS_ali, srcOf_list, srcOf_tup, srcOf_ali, Ab.got_some, gZ_nil, gC_cons, gT_tup, onlyDat_dat, notAli_dat, notAli_own, getO_some, fin_none, fin_some, finO_own, callA_nil, callA_dat, callA_ali, argS_none, argS_some, rt_ad, nx_ad, isN_none, isN_tup, notN_none, notN_tup, aNx, aRet, aIf, aSet, aAug, aDrop, aNever, aC, aBin, aBinR, aUn, aTst, aChain, aNot, aAnd, aOr, aIfE, aAndV, aOrV, aNotV, aNil, aCons, aTup, aLst, aCall1, aCallD, aIx, aApp, aExt, aSetIx, aTru, sLen, sAny, sAll, sSum, sList, sTuple, fI, fC, fB, aSeqI, aRng1, aFor, aFrz, gN, aUnp, aLc, aYes, aCall, aRep, aRgT, turn, wipeA, br_true, br_false, List.map_nil, List.map_cons, List.nil_append, List.cons_append, List.replicate, List.getElem?_cons_zero, List.getElem?_cons_succ, List.set_cons_zero, List.set_cons_succ, List.length_cons, List.length_nil, sIn_int, sNotIn_int, sEq_int, sNe_int, sEq_bool, sNe_bool, sEq_str]
      exact kn
    refine cut1 [some (.dat (.list (ns.map PyData.int))), some (.own none (.lst (tape ns t l s))), some (.dat (.int p)), some (.dat (eR W)), x4, some (.dat (eR Q)), some (.dat (.bool (meetB W Q))), none, none, some (.dat (eStale W Q)), some (.own none (.lst (run.map eRun))), some (.dat (.tuple ((playF p run).map eP))), none, none, some (.dat (eClash W Q)), some (.dat (.bool (meetB W W))), none, none, none, none, none, none, none, none, none, none, none] (fun Kn kn => ?_) ?_
    · simp only [eR, aName_eq, nm_dat, nm_own, dd_dat, dd_own, bb_bool, arg_dat, arg_own, arg_ali, das_nil, das_dat, cont_list, cont_tup, cont_own, cont_ali, contS_own, ownL_own, ownO_own, stor_dat, stor_own, iD_int, ii_int, i1_int, sAddU_int, sAddU_tup, truS_none, truS_bool, truS_int, truS_list, truS_tup, truS_ali, srcOf_list, srcOf_tup, srcOf_ali, Ab.got_some, gZ_nil, gC_cons, gT_tup, onlyDat_dat, notAli_dat, notAli_own, getO_some, fin_none, fin_some, finO_own, callA_nil, callA_dat, callA_ali, argS_none, argS_some, rt_ad, nx_ad, isN_none, isN_tup, notN_none, notN_tup, aNx, aRet, aIf, aSet, aAug, aDrop, aNever, aC, aBin, aBinR, aUn, aTst, aChain, aNot, aAnd, aOr, aIfE, aAndV, aOrV, aNotV, aNil, aCons, aTup, aLst, aCall1, aCallD, aIx, aApp, aExt, aSetIx, aTru, sLen, sAny, sAll, sSum, sList, sTuple, fI, fC, fB, aSeqI, aRng1, aFor, aFrz, gN, aUnp, aLc, aYes, aCall, aRep, aRgT, turn, wipeA, br_true, br_false, List.map_nil, List.map_cons, List.nil_append, List.cons_append, List.replicate, List.getElem?_cons_zero, List.getElem?_cons_succ, List.set_cons_zero, List.set_cons_succ, List.length_cons, List.length_nil, sIn_int, sNotIn_int, sEq_int, sNe_int, sEq_bool, sNe_bool, sEq_str]
      refine lc_pure (enc := tI) (fun a => W.any fun b => !hit a b) (fun _ => .int 1) trivial (by simp [Ab.freeOf]) (small_len (by omega)) (fun a ha Ka Ks ka ks => ?_) ?_
      · simp only [aName_eq, nm_dat, nm_own, dd_dat, dd_own, bb_bool, arg_dat, arg_own, arg_ali, das_nil, das_dat, cont_list, cont_tup, cont_own, cont_ali, contS_own, ownL_own, ownO_own, stor_dat, stor_own, iD_int, ii_int, i1_int, sAddU_int, sAddU_tup, truS_none, truS_bool, truS_int, truS_list, truS_tup, truS_ali, srcOf_list, srcOf_tup, srcOf_ali, Ab.got_some, gZ_nil, gC_cons, gT_tup, onlyDat_dat, notAli_dat, notAli_own, getO_some, fin_none, fin_some, finO_own, callA_nil, callA_dat, callA_ali, argS_none, argS_some, rt_ad, nx_ad, isN_none, isN_tup, notN_none, notN_tup, aNx, aRet, aIf, aSet, aAug, aDrop, aNever, aC, aBin, aBinR, aUn, aTst, aChain, aNot, aAnd, aOr, aIfE, aAndV, aOrV, aNotV, aNil, aCons, aTup, aLst, aCall1, aCallD, aIx, aApp, aExt, aSetIx, aTru, sLen, sAny, sAll, sSum, sList, sTuple, fI, fC, fB, aSeqI, aRng1, aFor, aFrz, gN, aUnp, aLc, aYes, aCall, aRep, aRgT, turn, wipeA, br_true, br_false, List.map_nil, List.map_cons, List.nil_append, List.cons_append, List.replicate, List.getElem?_cons_zero, List.getElem?_cons_succ, List.set_cons_zero, List.set_cons_succ, List.length_cons, List.length_nil, sIn_int, sNotIn_int, sEq_int, sNe_int, sEq_bool, sNe_bool, sEq_str]
        have hal := hWs a ha
        refine lc_pure (enc := tI) (fun b => !hit a b) tI trivial (by simp [Ab.freeOf]) (small_len (by omega)) (fun b hb Kb Ks2 kb ks2 => ?_) ?_
        · simp only [aName_eq, nm_dat, nm_own, dd_dat, dd_own, bb_bool, arg_dat, arg_own, arg_ali, das_nil, das_dat, cont_list, cont_tup, cont_own, cont_ali, contS_own, ownL_own, ownO_own, stor_dat, stor_own, iD_int, ii_int, i1_int, sAddU_int, sAddU_tup, truS_none, truS_bool, truS_int, truS_list, truS_tup, truS_ali, srcOf_list, srcOf_tup, srcOf_ali, Ab.got_some, gZ_nil, gC_cons, gT_tup, onlyDat_dat, notAli_dat, notAli_own, getO_some, fin_none, fin_some, finO_own, callA_nil, callA_dat, callA_ali, argS_none, argS_some, rt_ad, nx_ad, isN_none, isN_tup, notN_none, notN_tup, aNx, aRet, aIf, aSet, aAug, aDrop, aNever, aC, aBin, aBinR, aUn, aTst, aChain, aNot, aAnd, aOr, aIfE, aAndV, aOrV, aNotV, aNil, aCons, aTup, aLst, aCall1, aCallD, aIx, aApp, aExt, aSetIx, aTru, sLen, sAny, sAll, sSum, sList, sTuple, fI, fC, fB, aSeqI, aRng1, aFor, aFrz, gN, aUnp, aLc, aYes, aCall, aRep, aRgT, turn, wipeA, br_true, br_false, List.map_nil, List.map_cons, List.nil_append, List.cons_append, List.replicate, List.getElem?_cons_zero, List.getElem?_cons_succ, List.set_cons_zero, List.set_cons_succ, List.length_cons, List.length_nil, sIn_int, sNotIn_int, sEq_int, sNe_int, sEq_bool, sNe_bool, sEq_str]
          exact ⟨a, b, rfl, rfl, by omega, rfl, kb, ks2⟩
        · simp only [List.length_map, lenP, aName_eq, nm_dat, nm_own, dd_dat, dd_own, bb_bool, arg_dat, arg_own, arg_ali, das_nil, das_dat, cont_list, cont_tup, cont_own, cont_ali, contS_own, ownL_own, ownO_own, stor_dat, stor_own, iD_int, ii_int, i1_int, sAddU_int, sAddU_tup, truS_none, truS_bool, truS_int, truS_list, truS_tup, truS_ali, srcOf_list, srcOf_tup, srcOf_ali, Ab.got_some, gZ_nil, gC_cons, gT_tup, onlyDat_dat, notAli_dat, notAli_own, getO_some, fin_none, fin_some, finO_own, callA_nil, callA_dat, callA_ali, argS_none, argS_some, rt_ad, nx_ad, isN_none, isN_tup, notN_none, notN_tup, aNx, aRet, aIf, aSet, aAug, aDrop, aNever, aC, aBin, aBinR, aUn, aTst, aChain, aNot, aAnd, aOr, aIfE, aAndV, aOrV, aNotV, aNil, aCons, aTup, aLst, aCall1, aCallD, aIx, aApp, aExt, aSetIx, aTru, sLen, sAny, sAll, sSum, sList, sTuple, fI, fC, fB, aSeqI, aRng1, aFor, aFrz, gN, aUnp, aLc, aYes, aCall, aRep, aRgT, turn, wipeA, br_true, br_false, List.map_nil, List.map_cons, List.nil_append, List.cons_append, List.replicate, List.getElem?_cons_zero, List.getElem?_cons_succ, List.set_cons_zero, List.set_cons_succ, List.length_cons, List.length_nil, sIn_int, sNotIn_int, sEq_int, sNe_int, sEq_bool, sNe_bool, sEq_str]
          exact ⟨ka, ks⟩
      · simp only [List.length_map, len0, aName_eq, nm_dat, nm_own, dd_dat, dd_own, bb_bool, arg_dat, arg_own, arg_ali, das_nil, das_dat, cont_list, cont_tup, cont_own, cont_ali, contS_own, ownL_own, ownO_own, stor_dat, stor_own, iD_int, ii_int, i1_int, sAddU_int, sAddU_tup, truS_none, truS_bool, truS_int, truS_list, truS_tup, truS_ali, srcOf_list, srcOf_tup, srcOf_ali, Ab.got_some, gZ_nil, gC_cons, gT_tup, onlyDat_dat, notAli_dat, notAli_own, getO_some, fin_none, fin_some, finO_own, callA_nil, callA_dat, callA_ali, argS_none, argS_some, rt_ad, nx_ad, isN_none, isN_tup, notN_none, notN_tup, aNx, aRet, aIf, aSet, aAug, aDrop, aNever, aC, aBin, aBinR, aUn, aTst, aChain, aNot, aAnd, aOr, aIfE, aAndV, aOrV, aNotV, aNil, aCons, aTup, aLst, aCall1, aCallD, aIx, aApp, aExt, aSetIx, aTru, sLen, sAny, sAll, sSum, sList, sTuple, fI, fC, fB, aSeqI, aRng1, aFor, aFrz, gN, aUnp, aLc, aYes, aCall, aRep, aRgT, turn, wipeA, br_true, br_false, List.map_nil, List.map_cons, List.nil_append, List.cons_append, List.replicate, List.getElem?_cons_zero, List.getElem?_cons_succ, List.set_cons_zero, List.set_cons_succ, List.length_cons, List.length_nil, sIn_int, sNotIn_int, sEq_int, sNe_int, sEq_bool, sNe_bool, sEq_str]
        exact kn
    refine cut1 [some (.dat (.list (ns.map PyData.int))), some (.own none (.lst (tape ns t l s))), some (.dat (.int p)), some (.dat (eR W)), x4, some (.dat (eR Q)), some (.dat (.bool (meetB W Q))), none, none, some (.dat (eStale W Q)), some (.own none (.lst (run.map eRun))), some (.dat (.tuple ((playF p run).map eP))), none, none, some (.dat (eClash W Q)), some (.dat (.bool (meetB W W))), none, none, none, none, none, none, none, none, none, none, none] (fun Kn kn => ?_) ?_
    · rcases clash_all (W := W) (R := Q) with ⟨c1, c2, c3⟩ | ⟨c1, a, b, c3⟩ | ⟨c1, c2, a, b, c3⟩
      · rw [c1, c2, c3] at kn
        simp only [c1, c2, c3, beq_self_eq_true, Bool.not_true, aName_eq, nm_dat, nm_own, dd_dat, dd_own, bb_bool, arg_dat, arg_own, arg_ali, das_nil, das_dat, cont_list, cont_tup, cont_own, cont_ali, contS_own, ownL_own, ownO_own, stor_dat, stor_own, iD_int, ii_int, i1_int, sAddU_int, sAddU_tup, truS_none, truS_bool, truS_int, truS_list, truS_tup, truS_ali, srcOf_list, srcOf_tup, srcOf_ali, Ab.got_some, gZ_nil, gC_cons, gT_tup, onlyDat_dat, notAli_dat, notAli_own, getO_some, fin_none, fin_some, finO_own, callA_nil, callA_dat, callA_ali, argS_none, argS_some, rt_ad, nx_ad, isN_none, isN_tup, notN_none, notN_tup, aNx, aRet, aIf, aSet, aAug, aDrop, aNever, aC, aBin, aBinR, aUn, aTst, aChain, aNot, aAnd, aOr, aIfE, aAndV, aOrV, aNotV, aNil, aCons, aTup, aLst, aCall1, aCallD, aIx, aApp, aExt, aSetIx, aTru, sLen, sAny, sAll, sSum, sList, sTuple, fI, fC, fB, aSeqI, aRng1, aFor, aFrz, gN, aUnp, aLc, aYes, aCall, aRep, aRgT, turn, wipeA, br_true, br_false, List.map_nil, List.map_cons, List.nil_append, List.cons_append, List.replicate, List.getElem?_cons_zero, List.getElem?_cons_succ, List.set_cons_zero, List.set_cons_succ, List.length_cons, List.length_nil, sIn_int, sNotIn_int, sEq_int, sNe_int, sEq_bool, sNe_bool, sEq_str]
        exact kn
      · rw [c1, c3] at kn
        have e2 : decide (Str.ofString "read" = Str.ofString "read") = true := by decide
        simp only [c1, c3, at_0, e2, decide_true, beq_self_eq_true, Bool.not_true, Bool.not_false, aName_eq, nm_dat, nm_own, dd_dat, dd_own, bb_bool, arg_dat, arg_own, arg_ali, das_nil, das_dat, cont_list, cont_tup, cont_own, cont_ali, contS_own, ownL_own, ownO_own, stor_dat, stor_own, iD_int, ii_int, i1_int, sAddU_int, sAddU_tup, truS_none, truS_bool, truS_int, truS_list, truS_tup, truS_ali, srcOf_list, srcOf_tup, srcOf_ali, Ab.got_some, gZ_nil, gC_cons, gT_tup, onlyDat_dat, notAli_dat, notAli_own, getO_some, fin_none, fin_some, finO_own, callA_nil, callA_dat, callA_ali, argS_none, argS_some, rt_ad, nx_ad, isN_none, isN_tup, notN_none, notN_tup, aNx, aRet, aIf, aSet, aAug, aDrop, aNever, aC, aBin, aBinR, aUn, aTst, aChain, aNot, aAnd, aOr, aIfE, aAndV, aOrV, aNotV, aNil, aCons, aTup, aLst, aCall1, aCallD, aIx, aApp, aExt, aSetIx, aTru, sLen, sAny, sAll, sSum, sList, sTuple, fI, fC, fB, aSeqI, aRng1, aFor, aFrz, gN, aUnp, aLc, aYes, aCall, aRep, aRgT, turn, wipeA, br_true, br_false, List.map_nil, List.map_cons, List.nil_append, List.cons_append, List.replicate, List.getElem?_cons_zero, List.getElem?_cons_succ, List.set_cons_zero, List.set_cons_succ, List.length_cons, List.length_nil, sIn_int, sNotIn_int, sEq_int, sNe_int, sEq_bool, sNe_bool, sEq_str]
        exact kn
      · rw [c1, c2, c3] at kn
        have e2 : decide (Str.ofString "write" = Str.ofString "read") = false := by decide
        simp only [c1, c2, c3, at_0, e2, beq_self_eq_true, Bool.not_true, Bool.not_false, aName_eq, nm_dat, nm_own, dd_dat, dd_own, bb_bool, arg_dat, arg_own, arg_ali, das_nil, das_dat, cont_list, cont_tup, cont_own, cont_ali, contS_own, ownL_own, ownO_own, stor_dat, stor_own, iD_int, ii_int, i1_int, sAddU_int, sAddU_tup, truS_none, truS_bool, truS_int, truS_list, truS_tup, truS_ali, srcOf_list, srcOf_tup, srcOf_ali, Ab.got_some, gZ_nil, gC_cons, gT_tup, onlyDat_dat, notAli_dat, notAli_own, getO_some, fin_none, fin_some, finO_own, callA_nil, callA_dat, callA_ali, argS_none, argS_some, rt_ad, nx_ad, isN_none, isN_tup, notN_none, notN_tup, aNx, aRet, aIf, aSet, aAug, aDrop, aNever, aC, aBin, aBinR, aUn, aTst, aChain, aNot, aAnd, aOr, aIfE, aAndV, aOrV, aNotV, aNil, aCons, aTup, aLst, aCall1, aCallD, aIx, aApp, aExt, aSetIx, aTru, sLen, sAny, sAll, sSum, sList, sTuple, fI, fC, fB, aSeqI, aRng1, aFor, aFrz, gN, aUnp, aLc, aYes, aCall, aRep, aRgT, turn, wipeA, br_true, br_false, List.map_nil, List.map_cons, List.nil_append, List.cons_append, List.replicate, List.getElem?_cons_zero, List.getElem?_cons_succ, List.set_cons_zero, List.set_cons_succ, List.length_cons, List.length_nil, sIn_int, sNotIn_int, sEq_int, sNe_int, sEq_bool, sNe_bool, sEq_str]
        exact kn
    have hD := dual_ok p5 hW
    have hDl := hD.few
    have hDs : ∀ v ∈ dualF p W, v.length ≤ 5 := fun v hv => by have := (hD.each v hv).len; omega
    have hDW : meetB (dualF p W) W = true := meetB_iff.mpr fun a ha b hb => by
      rw [hit_comm]
      exact hits_iff.mp ((dual_mem hp0).mp ha).2.1 b hb
    refine cut1 [some (.dat (.list (ns.map PyData.int))), some (.own none (.lst (tape ns t l s))), some (.dat (.int p)), some (.dat (eR W)), x4, some (.dat (eR Q)), some (.dat (.bool (meetB W Q))), none, none, some (.dat (eStale W Q)), some (.own none (.lst (run.map eRun))), some (.dat (.tuple ((playF p run).map eP))), none, none, some (.dat (eClash W Q)), some (.dat (.bool (meetB W W))), some (.dat (eR (dualF p W))), none, none, none, none, none, none, none, none, none, none] (fun Kn kn => ?_) ?_
    · simp only [aName_eq, nm_dat, nm_own, dd_dat, dd_own, bb_bool, arg_dat, arg_own, arg_ali, das_nil, das_dat, cont_list, cont_tup, cont_own, cont_ali, contS_own, ownL_own, ownO_own, stor_dat, stor_own, iD_int, ii_int, i1_int, sAddU_int, sAddU_tup, truS_none, truS_bool, truS_int, truS_list, truS_tup, truS_ali, srcOf_list, srcOf_tup, srcOf_ali, Ab.got_some, gZ_nil, gC_cons, gT_tup, onlyDat_dat, notAli_dat, notAli_own, getO_some, fin_none, fin_some, finO_own, callA_nil, callA_dat, callA_ali, argS_none, argS_some, rt_ad, nx_ad, isN_none, isN_tup, notN_none, notN_tup, aNx, aRet, aIf, aSet, aAug, aDrop, aNever, aC, aBin, aBinR, aUn, aTst, aChain, aNot, aAnd, aOr, aIfE, aAndV, aOrV, aNotV, aNil, aCons, aTup, aLst, aCall1, aCallD, aIx, aApp, aExt, aSetIx, aTru, sLen, sAny, sAll, sSum, sList, sTuple, fI, fC, fB, aSeqI, aRng1, aFor, aFrz, gN, aUnp, aLc, aYes, aCall, aRep, aRgT, turn, wipeA, br_true, br_false, List.map_nil, List.map_cons, List.nil_append, List.cons_append, List.replicate, List.getElem?_cons_zero, List.getElem?_cons_succ, List.set_cons_zero, List.set_cons_succ, List.length_cons, List.length_nil, sIn_int, sNotIn_int, sEq_int, sNe_int, sEq_bool, sNe_bool, sEq_str]
      refine ⟨p, W, rfl, rfl, hW, rfl, ?_⟩
      simp only [aName_eq, nm_dat, nm_own, dd_dat, dd_own, bb_bool, arg_dat, arg_own, arg_ali, das_nil, das_dat, cont_list, cont_tup, cont_own, cont_ali, contS_own, ownL_own, ownO_own, stor_dat, stor_own, iD_int, ii_int, i1_int, sAddU_int, sAddU_tup, truS_none, truS_bool, truS_int, truS_list, truS_tup, truS_ali, srcOf_list, srcOf_tup, srcOf_ali, Ab.got_some, gZ_nil, gC_cons, gT_tup, onlyDat_dat, notAli_dat, notAli_own, getO_some, fin_none, fin_some, finO_own, callA_nil, callA_dat, callA_ali, argS_none, argS_some, rt_ad, nx_ad, isN_none, isN_tup, notN_none, notN_tup, aNx, aRet, aIf, aSet, aAug, aDrop, aNever, aC, aBin, aBinR, aUn, aTst, aChain, aNot, aAnd, aOr, aIfE, aAndV, aOrV, aNotV, aNil, aCons, aTup, aLst, aCall1, aCallD, aIx, aApp, aExt, aSetIx, aTru, sLen, sAny, sAll, sSum, sList, sTuple, fI, fC, fB, aSeqI, aRng1, aFor, aFrz, gN, aUnp, aLc, aYes, aCall, aRep, aRgT, turn, wipeA, br_true, br_false, List.map_nil, List.map_cons, List.nil_append, List.cons_append, List.replicate, List.getElem?_cons_zero, List.getElem?_cons_succ, List.set_cons_zero, List.set_cons_succ, List.length_cons, List.length_nil, sIn_int, sNotIn_int, sEq_int, sNe_int, sEq_bool, sNe_bool, sEq_str]
      exact kn
    refine cut1 [some (.dat (.list (ns.map PyData.int))), some (.own none (.lst (tape ns t l s))), some (.dat (.int p)), some (.dat (eR W)), x4, some (.dat (eR Q)), some (.dat (.bool (meetB W Q))), none, none, some (.dat (eStale W Q)), some (.own none (.lst (run.map eRun))), some (.dat (.tuple ((playF p run).map eP))), none, none, some (.dat (eClash W Q)), some (.dat (.bool (meetB W W))), some (.dat (eR (dualF p W))), none, none, none, none, none, none, none, none, none, none] (fun Kn kn => ?_) ?_
    · simp only [aName_eq, nm_dat, nm_own, dd_dat, dd_own, bb_bool, arg_dat, arg_own, arg_ali, das_nil, das_dat, cont_list, cont_tup, cont_own, cont_ali, contS_own, ownL_own, ownO_own, stor_dat, stor_own, iD_int, ii_int, i1_int, sAddU_int, sAddU_tup, truS_none, truS_bool, truS_int, truS_list, truS_tup, truS_ali, srcOf_list, srcOf_tup, srcOf_ali, Ab.got_some, gZ_nil, gC_cons, gT_tup, onlyDat_dat, notAli_dat, notAli_own, getO_some, fin_none, fin_some, finO_own, callA_nil, callA_dat, callA_ali, argS_none, argS_some, rt_ad, nx_ad, isN_none, isN_tup, notN_none, notN_tup, aNx, aRet, aIf, aSet, aAug, aDrop, aNever, aC, aBin, aBinR, aUn, aTst, aChain, aNot, aAnd, aOr, aIfE, aAndV, aOrV, aNotV, aNil, aCons, aTup, aLst, aCall1, aCallD, aIx, aApp, aExt, aSetIx, aTru, sLen, sAny, sAll, sSum, sList, sTuple, fI, fC, fB, aSeqI, aRng1, aFor, aFrz, gN, aUnp, aLc, aYes, aCall, aRep, aRgT, turn, wipeA, br_true, br_false, List.map_nil, List.map_cons, List.nil_append, List.cons_append, List.replicate, List.getElem?_cons_zero, List.getElem?_cons_succ, List.set_cons_zero, List.set_cons_succ, List.length_cons, List.length_nil, sIn_int, sNotIn_int, sEq_int, sNe_int, sEq_bool, sNe_bool, sEq_str]
      refine ⟨p, dualF p W, rfl, rfl, hD, rfl, ?_⟩
      simp only [eR, aName_eq, nm_dat, nm_own, dd_dat, dd_own, bb_bool, arg_dat, arg_own, arg_ali, das_nil, das_dat, cont_list, cont_tup, cont_own, cont_ali, contS_own, ownL_own, ownO_own, stor_dat, stor_own, iD_int, ii_int, i1_int, sAddU_int, sAddU_tup, truS_none, truS_bool, truS_int, truS_list, truS_tup, truS_ali, srcOf_list, srcOf_tup, srcOf_ali, Ab.got_some, gZ_nil, gC_cons, gT_tup, onlyDat_dat, notAli_dat, notAli_own, getO_some, fin_none, fin_some, finO_own, callA_nil, callA_dat, callA_ali, argS_none, argS_some, rt_ad, nx_ad, isN_none, isN_tup, notN_none, notN_tup, aNx, aRet, aIf, aSet, aAug, aDrop, aNever, aC, aBin, aBinR, aUn, aTst, aChain, aNot, aAnd, aOr, aIfE, aAndV, aOrV, aNotV, aNil, aCons, aTup, aLst, aCall1, aCallD, aIx, aApp, aExt, aSetIx, aTru, sLen, sAny, sAll, sSum, sList, sTuple, fI, fC, fB, aSeqI, aRng1, aFor, aFrz, gN, aUnp, aLc, aYes, aCall, aRep, aRgT, turn, wipeA, br_true, br_false, List.map_nil, List.map_cons, List.nil_append, List.cons_append, List.replicate, List.getElem?_cons_zero, List.getElem?_cons_succ, List.set_cons_zero, List.set_cons_succ, List.length_cons, List.length_nil, sIn_int, sNotIn_int, sEq_int, sNe_int, sEq_bool, sNe_bool, sEq_str]
      refine ⟨W, rfl, rfl, by omega, fun r hr => ⟨(hW.each r hr).ne, by have := hWs r hr; omega⟩, fun o1 nd me so => ?_⟩
      have e1 : o1 = dualF p (dualF p W) := uniq nd mins_nodup (fun x => (me x).trans (dual_dual hp0 (fun v hv => (hW.each v hv).set) x).symm) so mins_srt
      subst e1
      simp only [aName_eq, nm_dat, nm_own, dd_dat, dd_own, bb_bool, arg_dat, arg_own, arg_ali, das_nil, das_dat, cont_list, cont_tup, cont_own, cont_ali, contS_own, ownL_own, ownO_own, stor_dat, stor_own, iD_int, ii_int, i1_int, sAddU_int, sAddU_tup, truS_none, truS_bool, truS_int, truS_list, truS_tup, truS_ali, srcOf_list, srcOf_tup, srcOf_ali, Ab.got_some, gZ_nil, gC_cons, gT_tup, onlyDat_dat, notAli_dat, notAli_own, getO_some, fin_none, fin_some, finO_own, callA_nil, callA_dat, callA_ali, argS_none, argS_some, rt_ad, nx_ad, isN_none, isN_tup, notN_none, notN_tup, aNx, aRet, aIf, aSet, aAug, aDrop, aNever, aC, aBin, aBinR, aUn, aTst, aChain, aNot, aAnd, aOr, aIfE, aAndV, aOrV, aNotV, aNil, aCons, aTup, aLst, aCall1, aCallD, aIx, aApp, aExt, aSetIx, aTru, sLen, sAny, sAll, sSum, sList, sTuple, fI, fC, fB, aSeqI, aRng1, aFor, aFrz, gN, aUnp, aLc, aYes, aCall, aRep, aRgT, turn, wipeA, br_true, br_false, List.map_nil, List.map_cons, List.nil_append, List.cons_append, List.replicate, List.getElem?_cons_zero, List.getElem?_cons_succ, List.set_cons_zero, List.set_cons_succ, List.length_cons, List.length_nil, sIn_int, sNotIn_int, sEq_int, sNe_int, sEq_bool, sNe_bool, sEq_str]
      refine ⟨trivial, sNe_of (faith_lst (faith_tup faith_int)) (n := 2) (fun a => depth_lst (fun b => Nat.le_of_eq (depth_tI b)) a) (by decide) ?_⟩
      simp only [decide_true, Bool.not_true, aName_eq, nm_dat, nm_own, dd_dat, dd_own, bb_bool, arg_dat, arg_own, arg_ali, das_nil, das_dat, cont_list, cont_tup, cont_own, cont_ali, contS_own, ownL_own, ownO_own, stor_dat, stor_own, iD_int, ii_int, i1_int, sAddU_int, sAddU_tup, truS_none, truS_bool, truS_int, truS_list, truS_tup, truS_ali, srcOf_list, srcOf_tup, srcOf_ali, Ab.got_some, gZ_nil, gC_cons, gT_tup, onlyDat_dat, notAli_dat, notAli_own, getO_some, fin_none, fin_some, finO_own, callA_nil, callA_dat, callA_ali, argS_none, argS_some, rt_ad, nx_ad, isN_none, isN_tup, notN_none, notN_tup, aNx, aRet, aIf, aSet, aAug, aDrop, aNever, aC, aBin, aBinR, aUn, aTst, aChain, aNot, aAnd, aOr, aIfE, aAndV, aOrV, aNotV, aNil, aCons, aTup, aLst, aCall1, aCallD, aIx, aApp, aExt, aSetIx, aTru, sLen, sAny, sAll, sSum, sList, sTuple, fI, fC, fB, aSeqI, aRng1, aFor, aFrz, gN, aUnp, aLc, aYes, aCall, aRep, aRgT, turn, wipeA, br_true, br_false, List.map_nil, List.map_cons, List.nil_append, List.cons_append, List.replicate, List.getElem?_cons_zero, List.getElem?_cons_succ, List.set_cons_zero, List.set_cons_succ, List.length_cons, List.length_nil, sIn_int, sNotIn_int, sEq_int, sNe_int, sEq_bool, sNe_bool, sEq_str]
      refine ⟨dualF p W, rfl, rfl, by omega, fun r hr => ⟨(hD.each r hr).ne, by have := hDs r hr; omega⟩, fun o1 nd me so => ?_⟩
      have e1 : o1 = dualF p W := uniq nd mins_nodup (fun x => (me x).trans (mins_least hp0 rfl x).symm) so mins_srt
      subst e1
      simp only [aName_eq, nm_dat, nm_own, dd_dat, dd_own, bb_bool, arg_dat, arg_own, arg_ali, das_nil, das_dat, cont_list, cont_tup, cont_own, cont_ali, contS_own, ownL_own, ownO_own, stor_dat, stor_own, iD_int, ii_int, i1_int, sAddU_int, sAddU_tup, truS_none, truS_bool, truS_int, truS_list, truS_tup, truS_ali, srcOf_list, srcOf_tup, srcOf_ali, Ab.got_some, gZ_nil, gC_cons, gT_tup, onlyDat_dat, notAli_dat, notAli_own, getO_some, fin_none, fin_some, finO_own, callA_nil, callA_dat, callA_ali, argS_none, argS_some, rt_ad, nx_ad, isN_none, isN_tup, notN_none, notN_tup, aNx, aRet, aIf, aSet, aAug, aDrop, aNever, aC, aBin, aBinR, aUn, aTst, aChain, aNot, aAnd, aOr, aIfE, aAndV, aOrV, aNotV, aNil, aCons, aTup, aLst, aCall1, aCallD, aIx, aApp, aExt, aSetIx, aTru, sLen, sAny, sAll, sSum, sList, sTuple, fI, fC, fB, aSeqI, aRng1, aFor, aFrz, gN, aUnp, aLc, aYes, aCall, aRep, aRgT, turn, wipeA, br_true, br_false, List.map_nil, List.map_cons, List.nil_append, List.cons_append, List.replicate, List.getElem?_cons_zero, List.getElem?_cons_succ, List.set_cons_zero, List.set_cons_succ, List.length_cons, List.length_nil, sIn_int, sNotIn_int, sEq_int, sNe_int, sEq_bool, sNe_bool, sEq_str]
      refine ⟨trivial, sNe_of (faith_lst (faith_tup faith_int)) (n := 2) (fun a => depth_lst (fun b => Nat.le_of_eq (depth_tI b)) a) (by decide) ?_⟩
      simp only [decide_true, Bool.not_true, aName_eq, nm_dat, nm_own, dd_dat, dd_own, bb_bool, arg_dat, arg_own, arg_ali, das_nil, das_dat, cont_list, cont_tup, cont_own, cont_ali, contS_own, ownL_own, ownO_own, stor_dat, stor_own, iD_int, ii_int, i1_int, sAddU_int, sAddU_tup, truS_none, truS_bool, truS_int, truS_list, truS_tup, truS_ali, srcOf_list, srcOf_tup, srcOf_ali, Ab.got_some, gZ_nil, gC_cons, gT_tup, onlyDat_dat, notAli_dat, notAli_own, getO_some, fin_none, fin_some, finO_own, callA_nil, callA_dat, callA_ali, argS_none, argS_some, rt_ad, nx_ad, isN_none, isN_tup, notN_none, notN_tup, aNx, aRet, aIf, aSet, aAug, aDrop, aNever, aC, aBin, aBinR, aUn, aTst, aChain, aNot, aAnd, aOr, aIfE, aAndV, aOrV, aNotV, aNil, aCons, aTup, aLst, aCall1, aCallD, aIx, aApp, aExt, aSetIx, aTru, sLen, sAny, sAll, sSum, sList, sTuple, fI, fC, fB, aSeqI, aRng1, aFor, aFrz, gN, aUnp, aLc, aYes, aCall, aRep, aRgT, turn, wipeA, br_true, br_false, List.map_nil, List.map_cons, List.nil_append, List.cons_append, List.replicate, List.getElem?_cons_zero, List.getElem?_cons_succ, List.set_cons_zero, List.set_cons_succ, List.length_cons, List.length_nil, sIn_int, sNotIn_int, sEq_int, sNe_int, sEq_bool, sNe_bool, sEq_str]
      exact kn
    refine cut1 [some (.dat (.list (ns.map PyData.int))), some (.own none (.lst (tape ns t l s))), some (.dat (.int p)), some (.dat (eR W)), x4, some (.dat (eR Q)), some (.dat (.bool (meetB W Q))), none, none, some (.dat (eStale W Q)), some (.own none (.lst (run.map eRun))), some (.dat (.tuple ((playF p run).map eP))), none, none, some (.dat (eClash W Q)), some (.dat (.bool (meetB W W))), some (.dat (eR (dualF p W))), none, none, none, none, none, none, none, none, none, none] (fun Kn kn => ?_) ?_
    · simp only [eR, aName_eq, nm_dat, nm_own, dd_dat, dd_own, bb_bool, arg_dat, arg_own, arg_ali, das_nil, das_dat, cont_list, cont_tup, cont_own, cont_ali, contS_own, ownL_own, ownO_own, stor_dat, stor_own, iD_int, ii_int, i1_int, sAddU_int, sAddU_tup, truS_none, truS_bool, truS_int, truS_list, truS_tup, truS_ali, srcOf_list, srcOf_tup, srcOf_ali, Ab.got_some, gZ_nil, gC_cons, gT_tup, onlyDat_dat, notAli_dat, notAli_own, getO_some, fin_none, fin_some, finO_own, callA_nil, callA_dat, callA_ali, argS_none, argS_some, rt_ad, nx_ad, isN_none, isN_tup, notN_none, notN_tup, aNx, aRet, aIf, aSet, aAug, aDrop, aNever, aC, aBin, aBinR, aUn, aTst, aChain, aNot, aAnd, aOr, aIfE, aAndV, aOrV, aNotV, aNil, aCons, aTup, aLst, aCall1, aCallD, aIx, aApp, aExt, aSetIx, aTru, sLen, sAny, sAll, sSum, sList, sTuple, fI, fC, fB, aSeqI, aRng1, aFor, aFrz, gN, aUnp, aLc, aYes, aCall, aRep, aRgT, turn, wipeA, br_true, br_false, List.map_nil, List.map_cons, List.nil_append, List.cons_append, List.replicate, List.getElem?_cons_zero, List.getElem?_cons_succ, List.set_cons_zero, List.set_cons_succ, List.length_cons, List.length_nil, sIn_int, sNotIn_int, sEq_int, sNe_int, sEq_bool, sNe_bool, sEq_str]
      refine lc_pure (enc := tI) (fun a => W.any fun b => !hit a b) (fun _ => .int 1) trivial (by simp [Ab.freeOf]) (small_len (by omega)) (fun a ha Ka Ks ka ks => ?_) ?_
      · simp only [aName_eq, nm_dat, nm_own, dd_dat, dd_own, bb_bool, arg_dat, arg_own, arg_ali, das_nil, das_dat, cont_list, cont_tup, cont_own, cont_ali, contS_own, ownL_own, ownO_own, stor_dat, stor_own, iD_int, ii_int, i1_int, sAddU_int, sAddU_tup, truS_none, truS_bool, truS_int, truS_list, truS_tup, truS_ali, srcOf_list, srcOf_tup, srcOf_ali, Ab.got_some, gZ_nil, gC_cons, gT_tup, onlyDat_dat, notAli_dat, notAli_own, getO_some, fin_none, fin_some, finO_own, callA_nil, callA_dat, callA_ali, argS_none, argS_some, rt_ad, nx_ad, isN_none, isN_tup, notN_none, notN_tup, aNx, aRet, aIf, aSet, aAug, aDrop, aNever, aC, aBin, aBinR, aUn, aTst, aChain, aNot, aAnd, aOr, aIfE, aAndV, aOrV, aNotV, aNil, aCons, aTup, aLst, aCall1, aCallD, aIx, aApp, aExt, aSetIx, aTru, sLen, sAny, sAll, sSum, sList, sTuple, fI, fC, fB, aSeqI, aRng1, aFor, aFrz, gN, aUnp, aLc, aYes, aCall, aRep, aRgT, turn, wipeA, br_true, br_false, List.map_nil, List.map_cons, List.nil_append, List.cons_append, List.replicate, List.getElem?_cons_zero, List.getElem?_cons_succ, List.set_cons_zero, List.set_cons_succ, List.length_cons, List.length_nil, sIn_int, sNotIn_int, sEq_int, sNe_int, sEq_bool, sNe_bool, sEq_str]
        have hal := hDs a ha
        refine lc_pure (enc := tI) (fun b => !hit a b) tI trivial (by simp [Ab.freeOf]) (small_len (by omega)) (fun b hb Kb Ks2 kb ks2 => ?_) ?_
        · simp only [aName_eq, nm_dat, nm_own, dd_dat, dd_own, bb_bool, arg_dat, arg_own, arg_ali, das_nil, das_dat, cont_list, cont_tup, cont_own, cont_ali, contS_own, ownL_own, ownO_own, stor_dat, stor_own, iD_int, ii_int, i1_int, sAddU_int, sAddU_tup, truS_none, truS_bool, truS_int, truS_list, truS_tup, truS_ali, srcOf_list, srcOf_tup, srcOf_ali, Ab.got_some, gZ_nil, gC_cons, gT_tup, onlyDat_dat, notAli_dat, notAli_own, getO_some, fin_none, fin_some, finO_own, callA_nil, callA_dat, callA_ali, argS_none, argS_some, rt_ad, nx_ad, isN_none, isN_tup, notN_none, notN_tup, aNx, aRet, aIf, aSet, aAug, aDrop, aNever, aC, aBin, aBinR, aUn, aTst, aChain, aNot, aAnd, aOr, aIfE, aAndV, aOrV, aNotV, aNil, aCons, aTup, aLst, aCall1, aCallD, aIx, aApp, aExt, aSetIx, aTru, sLen, sAny, sAll, sSum, sList, sTuple, fI, fC, fB, aSeqI, aRng1, aFor, aFrz, gN, aUnp, aLc, aYes, aCall, aRep, aRgT, turn, wipeA, br_true, br_false, List.map_nil, List.map_cons, List.nil_append, List.cons_append, List.replicate, List.getElem?_cons_zero, List.getElem?_cons_succ, List.set_cons_zero, List.set_cons_succ, List.length_cons, List.length_nil, sIn_int, sNotIn_int, sEq_int, sNe_int, sEq_bool, sNe_bool, sEq_str]
          exact ⟨a, b, rfl, rfl, by omega, rfl, kb, ks2⟩
        · simp only [List.length_map, lenP, aName_eq, nm_dat, nm_own, dd_dat, dd_own, bb_bool, arg_dat, arg_own, arg_ali, das_nil, das_dat, cont_list, cont_tup, cont_own, cont_ali, contS_own, ownL_own, ownO_own, stor_dat, stor_own, iD_int, ii_int, i1_int, sAddU_int, sAddU_tup, truS_none, truS_bool, truS_int, truS_list, truS_tup, truS_ali, srcOf_list, srcOf_tup, srcOf_ali, Ab.got_some, gZ_nil, gC_cons, gT_tup, onlyDat_dat, notAli_dat, notAli_own, getO_some, fin_none, fin_some, finO_own, callA_nil, callA_dat, callA_ali, argS_none, argS_some, rt_ad, nx_ad, isN_none, isN_tup, notN_none, notN_tup, aNx, aRet, aIf, aSet, aAug, aDrop, aNever, aC, aBin, aBinR, aUn, aTst, aChain, aNot, aAnd, aOr, aIfE, aAndV, aOrV, aNotV, aNil, aCons, aTup, aLst, aCall1, aCallD, aIx, aApp, aExt, aSetIx, aTru, sLen, sAny, sAll, sSum, sList, sTuple, fI, fC, fB, aSeqI, aRng1, aFor, aFrz, gN, aUnp, aLc, aYes, aCall, aRep, aRgT, turn, wipeA, br_true, br_false, List.map_nil, List.map_cons, List.nil_append, List.cons_append, List.replicate, List.getElem?_cons_zero, List.getElem?_cons_succ, List.set_cons_zero, List.set_cons_succ, List.length_cons, List.length_nil, sIn_int, sNotIn_int, sEq_int, sNe_int, sEq_bool, sNe_bool, sEq_str]
          exact ⟨ka, ks⟩
      · have e2 : ((dualF p W).any fun a => W.any fun b => !hit a b) = false := by
          rw [List.any_eq_false]
          intro a ha
          have g := meetB_iff.mp hDW a ha
          simpa using g
        simp only [List.length_map, lenP, e2, aName_eq, nm_dat, nm_own, dd_dat, dd_own, bb_bool, arg_dat, arg_own, arg_ali, das_nil, das_dat, cont_list, cont_tup, cont_own, cont_ali, contS_own, ownL_own, ownO_own, stor_dat, stor_own, iD_int, ii_int, i1_int, sAddU_int, sAddU_tup, truS_none, truS_bool, truS_int, truS_list, truS_tup, truS_ali, srcOf_list, srcOf_tup, srcOf_ali, Ab.got_some, gZ_nil, gC_cons, gT_tup, onlyDat_dat, notAli_dat, notAli_own, getO_some, fin_none, fin_some, finO_own, callA_nil, callA_dat, callA_ali, argS_none, argS_some, rt_ad, nx_ad, isN_none, isN_tup, notN_none, notN_tup, aNx, aRet, aIf, aSet, aAug, aDrop, aNever, aC, aBin, aBinR, aUn, aTst, aChain, aNot, aAnd, aOr, aIfE, aAndV, aOrV, aNotV, aNil, aCons, aTup, aLst, aCall1, aCallD, aIx, aApp, aExt, aSetIx, aTru, sLen, sAny, sAll, sSum, sList, sTuple, fI, fC, fB, aSeqI, aRng1, aFor, aFrz, gN, aUnp, aLc, aYes, aCall, aRep, aRgT, turn, wipeA, br_true, br_false, List.map_nil, List.map_cons, List.nil_append, List.cons_append, List.replicate, List.getElem?_cons_zero, List.getElem?_cons_succ, List.set_cons_zero, List.set_cons_succ, List.length_cons, List.length_nil, sIn_int, sNotIn_int, sEq_int, sNe_int, sEq_bool, sNe_bool, sEq_str]
        exact kn
    obtain ⟨least, hleast⟩ : ∃ s, fatalF p W = some s := by
      rw [fatal_head]
      cases h : dualF p W with
      | nil =>
        have := hD.one
        rw [h] at this
        simp at this
      | cons a b => exact ⟨a, rfl⟩
    refine cut1 [some (.dat (.list (ns.map PyData.int))), some (.own none (.lst (tape ns t l s))), some (.dat (.int p)), some (.dat (eR W)), x4, some (.dat (eR Q)), some (.dat (.bool (meetB W Q))), none, none, some (.dat (eStale W Q)), some (.own none (.lst (run.map eRun))), some (.dat (.tuple ((playF p run).map eP))), none, none, some (.dat (eClash W Q)), some (.dat (.bool (meetB W W))), some (.dat (eR (dualF p W))), some (.dat (tI least)), none, none, none, none, none, none, none, none, none] (fun Kn kn => ?_) ?_
    · simp only [aName_eq, nm_dat, nm_own, dd_dat, dd_own, bb_bool, arg_dat, arg_own, arg_ali, das_nil, das_dat, cont_list, cont_tup, cont_own, cont_ali, contS_own, ownL_own, ownO_own, stor_dat, stor_own, iD_int, ii_int, i1_int, sAddU_int, sAddU_tup, truS_none, truS_bool, truS_int, truS_list, truS_tup, truS_ali, srcOf_list, srcOf_tup, srcOf_ali, Ab.got_some, gZ_nil, gC_cons, gT_tup, onlyDat_dat, notAli_dat, notAli_own, getO_some, fin_none, fin_some, finO_own, callA_nil, callA_dat, callA_ali, argS_none, argS_some, rt_ad, nx_ad, isN_none, isN_tup, notN_none, notN_tup, aNx, aRet, aIf, aSet, aAug, aDrop, aNever, aC, aBin, aBinR, aUn, aTst, aChain, aNot, aAnd, aOr, aIfE, aAndV, aOrV, aNotV, aNil, aCons, aTup, aLst, aCall1, aCallD, aIx, aApp, aExt, aSetIx, aTru, sLen, sAny, sAll, sSum, sList, sTuple, fI, fC, fB, aSeqI, aRng1, aFor, aFrz, gN, aUnp, aLc, aYes, aCall, aRep, aRgT, turn, wipeA, br_true, br_false, List.map_nil, List.map_cons, List.nil_append, List.cons_append, List.replicate, List.getElem?_cons_zero, List.getElem?_cons_succ, List.set_cons_zero, List.set_cons_succ, List.length_cons, List.length_nil, sIn_int, sNotIn_int, sEq_int, sNe_int, sEq_bool, sNe_bool, sEq_str]
      refine ⟨p, W, least, rfl, rfl, hW, hleast, rfl, ?_⟩
      simp only [aName_eq, nm_dat, nm_own, dd_dat, dd_own, bb_bool, arg_dat, arg_own, arg_ali, das_nil, das_dat, cont_list, cont_tup, cont_own, cont_ali, contS_own, ownL_own, ownO_own, stor_dat, stor_own, iD_int, ii_int, i1_int, sAddU_int, sAddU_tup, truS_none, truS_bool, truS_int, truS_list, truS_tup, truS_ali, srcOf_list, srcOf_tup, srcOf_ali, Ab.got_some, gZ_nil, gC_cons, gT_tup, onlyDat_dat, notAli_dat, notAli_own, getO_some, fin_none, fin_some, finO_own, callA_nil, callA_dat, callA_ali, argS_none, argS_some, rt_ad, nx_ad, isN_none, isN_tup, notN_none, notN_tup, aNx, aRet, aIf, aSet, aAug, aDrop, aNever, aC, aBin, aBinR, aUn, aTst, aChain, aNot, aAnd, aOr, aIfE, aAndV, aOrV, aNotV, aNil, aCons, aTup, aLst, aCall1, aCallD, aIx, aApp, aExt, aSetIx, aTru, sLen, sAny, sAll, sSum, sList, sTuple, fI, fC, fB, aSeqI, aRng1, aFor, aFrz, gN, aUnp, aLc, aYes, aCall, aRep, aRgT, turn, wipeA, br_true, br_false, List.map_nil, List.map_cons, List.nil_append, List.cons_append, List.replicate, List.getElem?_cons_zero, List.getElem?_cons_succ, List.set_cons_zero, List.set_cons_succ, List.length_cons, List.length_nil, sIn_int, sNotIn_int, sEq_int, sNe_int, sEq_bool, sNe_bool, sEq_str]
      exact kn
    refine cut1 [some (.dat (.list (ns.map PyData.int))), some (.own none (.lst (tape ns t l s))), some (.dat (.int p)), some (.dat (eR W)), x4, some (.dat (eR Q)), some (.dat (.bool (meetB W Q))), none, none, some (.dat (eStale W Q)), some (.own none (.lst (run.map eRun))), some (.dat (.tuple ((playF p run).map eP))), none, none, some (.dat (eClash W Q)), some (.dat (.bool (meetB W W))), some (.dat (eR (dualF p W))), some (.dat (tI least)), none, none, none, none, none, none, none, none, none] (fun Kn kn => ?_) ?_
    · obtain ⟨tl, htl⟩ : ∃ tl, dualF p W = least :: tl := by
        have g := hleast
        rw [fatal_head] at g
        cases h : dualF p W with
        | nil =>
          rw [h] at g
          cases g
        | cons a b =>
          rw [h] at g
          exact ⟨b, by rw [Option.some.inj g]⟩
      rw [htl] at kn
      simp only [htl, eR, at_0, aName_eq, nm_dat, nm_own, dd_dat, dd_own, bb_bool, arg_dat, arg_own, arg_ali, das_nil, das_dat, cont_list, cont_tup, cont_own, cont_ali, contS_own, ownL_own, ownO_own, stor_dat, stor_own, iD_int, ii_int, i1_int, sAddU_int, sAddU_tup, truS_none, truS_bool, truS_int, truS_list, truS_tup, truS_ali, srcOf_list, srcOf_tup, srcOf_ali, Ab.got_some, gZ_nil, gC_cons, gT_tup, onlyDat_dat, notAli_dat, notAli_own, getO_some, fin_none, fin_some, finO_own, callA_nil, callA_dat, callA_ali, argS_none, argS_some, rt_ad, nx_ad, isN_none, isN_tup, notN_none, notN_tup, aNx, aRet, aIf, aSet, aAug, aDrop, aNever, aC, aBin, aBinR, aUn, aTst, aChain, aNot, aAnd, aOr, aIfE, aAndV, aOrV, aNotV, aNil, aCons, aTup, aLst, aCall1, aCallD, aIx, aApp, aExt, aSetIx, aTru, sLen, sAny, sAll, sSum, sList, sTuple, fI, fC, fB, aSeqI, aRng1, aFor, aFrz, gN, aUnp, aLc, aYes, aCall, aRep, aRgT, turn, wipeA, br_true, br_false, List.map_nil, List.map_cons, List.nil_append, List.cons_append, List.replicate, List.getElem?_cons_zero, List.getElem?_cons_succ, List.set_cons_zero, List.set_cons_succ, List.length_cons, List.length_nil, sIn_int, sNotIn_int, sEq_int, sNe_int, sEq_bool, sNe_bool, sEq_str]
      refine sNe_of (faith_tup faith_int) (n := 1) (fun a => Nat.le_of_eq (depth_tI a)) (by decide) ?_
      simp only [decide_true, Bool.not_true, aName_eq, nm_dat, nm_own, dd_dat, dd_own, bb_bool, arg_dat, arg_own, arg_ali, das_nil, das_dat, cont_list, cont_tup, cont_own, cont_ali, contS_own, ownL_own, ownO_own, stor_dat, stor_own, iD_int, ii_int, i1_int, sAddU_int, sAddU_tup, truS_none, truS_bool, truS_int, truS_list, truS_tup, truS_ali, srcOf_list, srcOf_tup, srcOf_ali, Ab.got_some, gZ_nil, gC_cons, gT_tup, onlyDat_dat, notAli_dat, notAli_own, getO_some, fin_none, fin_some, finO_own, callA_nil, callA_dat, callA_ali, argS_none, argS_some, rt_ad, nx_ad, isN_none, isN_tup, notN_none, notN_tup, aNx, aRet, aIf, aSet, aAug, aDrop, aNever, aC, aBin, aBinR, aUn, aTst, aChain, aNot, aAnd, aOr, aIfE, aAndV, aOrV, aNotV, aNil, aCons, aTup, aLst, aCall1, aCallD, aIx, aApp, aExt, aSetIx, aTru, sLen, sAny, sAll, sSum, sList, sTuple, fI, fC, fB, aSeqI, aRng1, aFor, aFrz, gN, aUnp, aLc, aYes, aCall, aRep, aRgT, turn, wipeA, br_true, br_false, List.map_nil, List.map_cons, List.nil_append, List.cons_append, List.replicate, List.getElem?_cons_zero, List.getElem?_cons_succ, List.set_cons_zero, List.set_cons_succ, List.length_cons, List.length_nil, sIn_int, sNotIn_int, sEq_int, sNe_int, sEq_bool, sNe_bool, sEq_str]
      refine ⟨p, W, least, rfl, rfl, hW, hleast, rfl, ?_⟩
      simp only [tI, List.length_map, decide_true, Bool.not_true, aName_eq, nm_dat, nm_own, dd_dat, dd_own, bb_bool, arg_dat, arg_own, arg_ali, das_nil, das_dat, cont_list, cont_tup, cont_own, cont_ali, contS_own, ownL_own, ownO_own, stor_dat, stor_own, iD_int, ii_int, i1_int, sAddU_int, sAddU_tup, truS_none, truS_bool, truS_int, truS_list, truS_tup, truS_ali, srcOf_list, srcOf_tup, srcOf_ali, Ab.got_some, gZ_nil, gC_cons, gT_tup, onlyDat_dat, notAli_dat, notAli_own, getO_some, fin_none, fin_some, finO_own, callA_nil, callA_dat, callA_ali, argS_none, argS_some, rt_ad, nx_ad, isN_none, isN_tup, notN_none, notN_tup, aNx, aRet, aIf, aSet, aAug, aDrop, aNever, aC, aBin, aBinR, aUn, aTst, aChain, aNot, aAnd, aOr, aIfE, aAndV, aOrV, aNotV, aNil, aCons, aTup, aLst, aCall1, aCallD, aIx, aApp, aExt, aSetIx, aTru, sLen, sAny, sAll, sSum, sList, sTuple, fI, fC, fB, aSeqI, aRng1, aFor, aFrz, gN, aUnp, aLc, aYes, aCall, aRep, aRgT, turn, wipeA, br_true, br_false, List.map_nil, List.map_cons, List.nil_append, List.cons_append, List.replicate, List.getElem?_cons_zero, List.getElem?_cons_succ, List.set_cons_zero, List.set_cons_succ, List.length_cons, List.length_nil, sIn_int, sNotIn_int, sEq_int, sNe_int, sEq_bool, sNe_bool, sEq_str]
      exact kn
    refine cut1 [some (.dat (.list (ns.map PyData.int))), some (.own none (.lst (tape ns t l s))), some (.dat (.int p)), some (.dat (eR W)), x4, some (.dat (eR Q)), some (.dat (.bool (meetB W Q))), none, none, some (.dat (eStale W Q)), some (.own none (.lst (run.map eRun))), some (.dat (.tuple ((playF p run).map eP))), none, none, some (.dat (eClash W Q)), some (.dat (.bool (meetB W W))), some (.dat (eR (dualF p W))), some (.dat (tI least)), none, none, none, none, none, none, none, none, none] (fun Kn kn => ?_) ?_
    · cases hm : meetB W Q with
      | false =>
        rw [hm] at kn
        simp only [aName_eq, nm_dat, nm_own, dd_dat, dd_own, bb_bool, arg_dat, arg_own, arg_ali, das_nil, das_dat, cont_list, cont_tup, cont_own, cont_ali, contS_own, ownL_own, ownO_own, stor_dat, stor_own, iD_int, ii_int, i1_int, sAddU_int, sAddU_tup, truS_none, truS_bool, truS_int, truS_list, truS_tup, truS_ali, srcOf_list, srcOf_tup, srcOf_ali, Ab.got_some, gZ_nil, gC_cons, gT_tup, onlyDat_dat, notAli_dat, notAli_own, getO_some, fin_none, fin_some, finO_own, callA_nil, callA_dat, callA_ali, argS_none, argS_some, rt_ad, nx_ad, isN_none, isN_tup, notN_none, notN_tup, aNx, aRet, aIf, aSet, aAug, aDrop, aNever, aC, aBin, aBinR, aUn, aTst, aChain, aNot, aAnd, aOr, aIfE, aAndV, aOrV, aNotV, aNil, aCons, aTup, aLst, aCall1, aCallD, aIx, aApp, aExt, aSetIx, aTru, sLen, sAny, sAll, sSum, sList, sTuple, fI, fC, fB, aSeqI, aRng1, aFor, aFrz, gN, aUnp, aLc, aYes, aCall, aRep, aRgT, turn, wipeA, br_true, br_false, List.map_nil, List.map_cons, List.nil_append, List.cons_append, List.replicate, List.getElem?_cons_zero, List.getElem?_cons_succ, List.set_cons_zero, List.set_cons_succ, List.length_cons, List.length_nil, sIn_int, sNotIn_int, sEq_int, sNe_int, sEq_bool, sNe_bool, sEq_str]
        exact kn
      | true =>
        rw [hm] at kn
        simp only [eR, aName_eq, nm_dat, nm_own, dd_dat, dd_own, bb_bool, arg_dat, arg_own, arg_ali, das_nil, das_dat, cont_list, cont_tup, cont_own, cont_ali, contS_own, ownL_own, ownO_own, stor_dat, stor_own, iD_int, ii_int, i1_int, sAddU_int, sAddU_tup, truS_none, truS_bool, truS_int, truS_list, truS_tup, truS_ali, srcOf_list, srcOf_tup, srcOf_ali, Ab.got_some, gZ_nil, gC_cons, gT_tup, onlyDat_dat, notAli_dat, notAli_own, getO_some, fin_none, fin_some, finO_own, callA_nil, callA_dat, callA_ali, argS_none, argS_some, rt_ad, nx_ad, isN_none, isN_tup, notN_none, notN_tup, aNx, aRet, aIf, aSet, aAug, aDrop, aNever, aC, aBin, aBinR, aUn, aTst, aChain, aNot, aAnd, aOr, aIfE, aAndV, aOrV, aNotV, aNil, aCons, aTup, aLst, aCall1, aCallD, aIx, aApp, aExt, aSetIx, aTru, sLen, sAny, sAll, sSum, sList, sTuple, fI, fC, fB, aSeqI, aRng1, aFor, aFrz, gN, aUnp, aLc, aYes, aCall, aRep, aRgT, turn, wipeA, br_true, br_false, List.map_nil, List.map_cons, List.nil_append, List.cons_append, List.replicate, List.getElem?_cons_zero, List.getElem?_cons_succ, List.set_cons_zero, List.set_cons_succ, List.length_cons, List.length_nil, sIn_int, sNotIn_int, sEq_int, sNe_int, sEq_bool, sNe_bool, sEq_str]
        refine lc_pure (enc := tI) (fun row => (dualF p W).all fun one => !within one row) tI trivial (by simp [Ab.freeOf]) (small_len (by omega)) (fun row hrow Ka Ks ka ks => ?_) ?_
        · simp only [aName_eq, nm_dat, nm_own, dd_dat, dd_own, bb_bool, arg_dat, arg_own, arg_ali, das_nil, das_dat, cont_list, cont_tup, cont_own, cont_ali, contS_own, ownL_own, ownO_own, stor_dat, stor_own, iD_int, ii_int, i1_int, sAddU_int, sAddU_tup, truS_none, truS_bool, truS_int, truS_list, truS_tup, truS_ali, srcOf_list, srcOf_tup, srcOf_ali, Ab.got_some, gZ_nil, gC_cons, gT_tup, onlyDat_dat, notAli_dat, notAli_own, getO_some, fin_none, fin_some, finO_own, callA_nil, callA_dat, callA_ali, argS_none, argS_some, rt_ad, nx_ad, isN_none, isN_tup, notN_none, notN_tup, aNx, aRet, aIf, aSet, aAug, aDrop, aNever, aC, aBin, aBinR, aUn, aTst, aChain, aNot, aAnd, aOr, aIfE, aAndV, aOrV, aNotV, aNil, aCons, aTup, aLst, aCall1, aCallD, aIx, aApp, aExt, aSetIx, aTru, sLen, sAny, sAll, sSum, sList, sTuple, fI, fC, fB, aSeqI, aRng1, aFor, aFrz, gN, aUnp, aLc, aYes, aCall, aRep, aRgT, turn, wipeA, br_true, br_false, List.map_nil, List.map_cons, List.nil_append, List.cons_append, List.replicate, List.getElem?_cons_zero, List.getElem?_cons_succ, List.set_cons_zero, List.set_cons_succ, List.length_cons, List.length_nil, sIn_int, sNotIn_int, sEq_int, sNe_int, sEq_bool, sNe_bool, sEq_str]
          refine lc_pure (enc := tI) (fun one => within one row) tI trivial (by simp [Ab.freeOf]) (small_len (by omega)) (fun one hone Kb Ks2 kb ks2 => ?_) ?_
          · have ol := hDs one hone
            simp only [tI, aName_eq, nm_dat, nm_own, dd_dat, dd_own, bb_bool, arg_dat, arg_own, arg_ali, das_nil, das_dat, cont_list, cont_tup, cont_own, cont_ali, contS_own, ownL_own, ownO_own, stor_dat, stor_own, iD_int, ii_int, i1_int, sAddU_int, sAddU_tup, truS_none, truS_bool, truS_int, truS_list, truS_tup, truS_ali, srcOf_list, srcOf_tup, srcOf_ali, Ab.got_some, gZ_nil, gC_cons, gT_tup, onlyDat_dat, notAli_dat, notAli_own, getO_some, fin_none, fin_some, finO_own, callA_nil, callA_dat, callA_ali, argS_none, argS_some, rt_ad, nx_ad, isN_none, isN_tup, notN_none, notN_tup, aNx, aRet, aIf, aSet, aAug, aDrop, aNever, aC, aBin, aBinR, aUn, aTst, aChain, aNot, aAnd, aOr, aIfE, aAndV, aOrV, aNotV, aNil, aCons, aTup, aLst, aCall1, aCallD, aIx, aApp, aExt, aSetIx, aTru, sLen, sAny, sAll, sSum, sList, sTuple, fI, fC, fB, aSeqI, aRng1, aFor, aFrz, gN, aUnp, aLc, aYes, aCall, aRep, aRgT, turn, wipeA, br_true, br_false, List.map_nil, List.map_cons, List.nil_append, List.cons_append, List.replicate, List.getElem?_cons_zero, List.getElem?_cons_succ, List.set_cons_zero, List.set_cons_succ, List.length_cons, List.length_nil, sIn_int, sNotIn_int, sEq_int, sNe_int, sEq_bool, sNe_bool, sEq_str]
            refine lc_pure (enc := PyData.int) (fun x => !decide (x ∈ row)) PyData.int trivial ⟨n4, by simp, trivial⟩ (small_len (by omega)) (fun x hx Kc2 Ks3 kc ks3 => ?_) ?_
            · simp only [aName_eq, nm_dat, nm_own, dd_dat, dd_own, bb_bool, arg_dat, arg_own, arg_ali, das_nil, das_dat, cont_list, cont_tup, cont_own, cont_ali, contS_own, ownL_own, ownO_own, stor_dat, stor_own, iD_int, ii_int, i1_int, sAddU_int, sAddU_tup, truS_none, truS_bool, truS_int, truS_list, truS_tup, truS_ali, srcOf_list, srcOf_tup, srcOf_ali, Ab.got_some, gZ_nil, gC_cons, gT_tup, onlyDat_dat, notAli_dat, notAli_own, getO_some, fin_none, fin_some, finO_own, callA_nil, callA_dat, callA_ali, argS_none, argS_some, rt_ad, nx_ad, isN_none, isN_tup, notN_none, notN_tup, aNx, aRet, aIf, aSet, aAug, aDrop, aNever, aC, aBin, aBinR, aUn, aTst, aChain, aNot, aAnd, aOr, aIfE, aAndV, aOrV, aNotV, aNil, aCons, aTup, aLst, aCall1, aCallD, aIx, aApp, aExt, aSetIx, aTru, sLen, sAny, sAll, sSum, sList, sTuple, fI, fC, fB, aSeqI, aRng1, aFor, aFrz, gN, aUnp, aLc, aYes, aCall, aRep, aRgT, turn, wipeA, br_true, br_false, List.map_nil, List.map_cons, List.nil_append, List.cons_append, List.replicate, List.getElem?_cons_zero, List.getElem?_cons_succ, List.set_cons_zero, List.set_cons_succ, List.length_cons, List.length_nil, sIn_int, sNotIn_int, sEq_int, sNe_int, sEq_bool, sNe_bool, sEq_str]
              exact ⟨kc, ks3⟩
            · have ew : (one.all fun x => !!decide (x ∈ row)) = within one row := by simp [within]
              simp only [List.length_map, len0, ew, aName_eq, nm_dat, nm_own, dd_dat, dd_own, bb_bool, arg_dat, arg_own, arg_ali, das_nil, das_dat, cont_list, cont_tup, cont_own, cont_ali, contS_own, ownL_own, ownO_own, stor_dat, stor_own, iD_int, ii_int, i1_int, sAddU_int, sAddU_tup, truS_none, truS_bool, truS_int, truS_list, truS_tup, truS_ali, srcOf_list, srcOf_tup, srcOf_ali, Ab.got_some, gZ_nil, gC_cons, gT_tup, onlyDat_dat, notAli_dat, notAli_own, getO_some, fin_none, fin_some, finO_own, callA_nil, callA_dat, callA_ali, argS_none, argS_some, rt_ad, nx_ad, isN_none, isN_tup, notN_none, notN_tup, aNx, aRet, aIf, aSet, aAug, aDrop, aNever, aC, aBin, aBinR, aUn, aTst, aChain, aNot, aAnd, aOr, aIfE, aAndV, aOrV, aNotV, aNil, aCons, aTup, aLst, aCall1, aCallD, aIx, aApp, aExt, aSetIx, aTru, sLen, sAny, sAll, sSum, sList, sTuple, fI, fC, fB, aSeqI, aRng1, aFor, aFrz, gN, aUnp, aLc, aYes, aCall, aRep, aRgT, turn, wipeA, br_true, br_false, List.map_nil, List.map_cons, List.nil_append, List.cons_append, List.replicate, List.getElem?_cons_zero, List.getElem?_cons_succ, List.set_cons_zero, List.set_cons_succ, List.length_cons, List.length_nil, sIn_int, sNotIn_int, sEq_int, sNe_int, sEq_bool, sNe_bool, sEq_str]
              exact ⟨kb, ks2⟩
          · simp only [List.length_map, len0, aName_eq, nm_dat, nm_own, dd_dat, dd_own, bb_bool, arg_dat, arg_own, arg_ali, das_nil, das_dat, cont_list, cont_tup, cont_own, cont_ali, contS_own, ownL_own, ownO_own, stor_dat, stor_own, iD_int, ii_int, i1_int, sAddU_int, sAddU_tup, truS_none, truS_bool, truS_int, truS_list, truS_tup, truS_ali, srcOf_list, srcOf_tup, srcOf_ali, Ab.got_some, gZ_nil, gC_cons, gT_tup, onlyDat_dat, notAli_dat, notAli_own, getO_some, fin_none, fin_some, finO_own, callA_nil, callA_dat, callA_ali, argS_none, argS_some, rt_ad, nx_ad, isN_none, isN_tup, notN_none, notN_tup, aNx, aRet, aIf, aSet, aAug, aDrop, aNever, aC, aBin, aBinR, aUn, aTst, aChain, aNot, aAnd, aOr, aIfE, aAndV, aOrV, aNotV, aNil, aCons, aTup, aLst, aCall1, aCallD, aIx, aApp, aExt, aSetIx, aTru, sLen, sAny, sAll, sSum, sList, sTuple, fI, fC, fB, aSeqI, aRng1, aFor, aFrz, gN, aUnp, aLc, aYes, aCall, aRep, aRgT, turn, wipeA, br_true, br_false, List.map_nil, List.map_cons, List.nil_append, List.cons_append, List.replicate, List.getElem?_cons_zero, List.getElem?_cons_succ, List.set_cons_zero, List.set_cons_succ, List.length_cons, List.length_nil, sIn_int, sNotIn_int, sEq_int, sNe_int, sEq_bool, sNe_bool, sEq_str]
            exact ⟨ka, ks⟩
        · have e2 : (Q.any fun row => (dualF p W).all fun one => !within one row) = false := by
            rw [List.any_eq_false]
            intro row hrow
            have hh : hits W row = true := hits_iff.mpr fun v hv => meetB_iff.mp hm v hv row hrow
            obtain ⟨m, h1, h2⟩ := mins_cover hp0 (hQ.each row hrow).set hh
            intro hall
            have := List.all_eq_true.mp hall m h1
            rw [h2] at this
            cases this
          simp only [List.length_map, lenP, e2, aName_eq, nm_dat, nm_own, dd_dat, dd_own, bb_bool, arg_dat, arg_own, arg_ali, das_nil, das_dat, cont_list, cont_tup, cont_own, cont_ali, contS_own, ownL_own, ownO_own, stor_dat, stor_own, iD_int, ii_int, i1_int, sAddU_int, sAddU_tup, truS_none, truS_bool, truS_int, truS_list, truS_tup, truS_ali, srcOf_list, srcOf_tup, srcOf_ali, Ab.got_some, gZ_nil, gC_cons, gT_tup, onlyDat_dat, notAli_dat, notAli_own, getO_some, fin_none, fin_some, finO_own, callA_nil, callA_dat, callA_ali, argS_none, argS_some, rt_ad, nx_ad, isN_none, isN_tup, notN_none, notN_tup, aNx, aRet, aIf, aSet, aAug, aDrop, aNever, aC, aBin, aBinR, aUn, aTst, aChain, aNot, aAnd, aOr, aIfE, aAndV, aOrV, aNotV, aNil, aCons, aTup, aLst, aCall1, aCallD, aIx, aApp, aExt, aSetIx, aTru, sLen, sAny, sAll, sSum, sList, sTuple, fI, fC, fB, aSeqI, aRng1, aFor, aFrz, gN, aUnp, aLc, aYes, aCall, aRep, aRgT, turn, wipeA, br_true, br_false, List.map_nil, List.map_cons, List.nil_append, List.cons_append, List.replicate, List.getElem?_cons_zero, List.getElem?_cons_succ, List.set_cons_zero, List.set_cons_succ, List.length_cons, List.length_nil, sIn_int, sNotIn_int, sEq_int, sNe_int, sEq_bool, sNe_bool, sEq_str]
          exact kn
    refine cut (fun ρ => ∃ (ws : List Int) (t l s : Int), (ws.length : Int) = p ∧ (∀ x ∈ ws, 0 ≤ x) ∧ ws.sum ≤ 25 ∧ OkTape ns t l s ∧ ρ = [some (.dat (.list (ns.map PyData.int))), some (.own none (.lst (tape ns t l s))), some (.dat (.int p)), some (.dat (eR W)), x4, some (.dat (eR Q)), some (.dat (.bool (meetB W Q))), none, none, some (.dat (eStale W Q)), some (.own none (.lst (run.map eRun))), some (.dat (.tuple ((playF p run).map eP))), none, none, some (.dat (eClash W Q)), some (.dat (.bool (meetB W W))), some (.dat (eR (dualF p W))), some (.dat (tI least)), none, some (.dat (tI ws)), none, none, none, none, none, none, none]) (fun Kn kn => ?_) ?_
    · simp only [aName_eq, nm_dat, nm_own, dd_dat, dd_own, bb_bool, arg_dat, arg_own, arg_ali, das_nil, das_dat, cont_list, cont_tup, cont_own, cont_ali, contS_own, ownL_own, ownO_own, stor_dat, stor_own, iD_int, ii_int, i1_int, sAddU_int, sAddU_tup, truS_none, truS_bool, truS_int, truS_list, truS_tup, truS_ali, srcOf_list, srcOf_tup, srcOf_ali, Ab.got_some, gZ_nil, gC_cons, gT_tup, onlyDat_dat, notAli_dat, notAli_own, getO_some, fin_none, fin_some, finO_own, callA_nil, callA_dat, callA_ali, argS_none, argS_some, rt_ad, nx_ad, isN_none, isN_tup, notN_none, notN_tup, aNx, aRet, aIf, aSet, aAug, aDrop, aNever, aC, aBin, aBinR, aUn, aTst, aChain, aNot, aAnd, aOr, aIfE, aAndV, aOrV, aNotV, aNil, aCons, aTup, aLst, aCall1, aCallD, aIx, aApp, aExt, aSetIx, aTru, sLen, sAny, sAll, sSum, sList, sTuple, fI, fC, fB, aSeqI, aRng1, aFor, aFrz, gN, aUnp, aLc, aYes, aCall, aRep, aRgT, turn, wipeA, br_true, br_false, List.map_nil, List.map_cons, List.nil_append, List.cons_append, List.replicate, List.getElem?_cons_zero, List.getElem?_cons_succ, List.set_cons_zero, List.set_cons_succ, List.length_cons, List.length_nil, sIn_int, sNotIn_int, sEq_int, sNe_int, sEq_bool, sNe_bool, sEq_str]
      refine ⟨by omega, by omega, ?_⟩
      rw [rangeD0]
      refine lc_inv (enc := fun (q : Nat) => PyData.int (q : Int)) (fun pre acc ρ => ∃ (zs : List Int) (t l s : Int), zs.length = pre.length ∧ (∀ x ∈ zs, 0 ≤ x ∧ x < 5) ∧ acc = zs.map PyData.int ∧ OkTape ns t l s ∧ ρ = [some (.dat (.list (ns.map PyData.int))), some (.own none (.lst (tape ns t l s))), some (.dat (.int p)), some (.dat (eR W)), x4, some (.dat (eR Q)), some (.dat (.bool (meetB W Q))), none, none, some (.dat (eStale W Q)), some (.own none (.lst (run.map eRun))), some (.dat (.tuple ((playF p run).map eP))), none, none, some (.dat (eClash W Q)), some (.dat (.bool (meetB W W))), some (.dat (eR (dualF p W))), some (.dat (tI least)), none, none, none, none, none, none, none, none, none])
        ⟨[], t, l, s, rfl, fun _ z => (nomatch z), rfl, hT, rfl⟩ (small_len (by simp; omega)) (fun pre acc ρ hI => ?_) ?_ ?_
      · obtain ⟨rows, t, l, s, _, _, _, _, rfl⟩ := hI
        exact ⟨trivial, ⟨n4, by simp, trivial⟩⟩
      · rintro pre x post e acc ρ ⟨zs, t, l, s, g1, g2, g3, g4, rfl⟩ Ka Ks ka ks
        simp only [aName_eq, nm_dat, nm_own, dd_dat, dd_own, bb_bool, arg_dat, arg_own, arg_ali, das_nil, das_dat, cont_list, cont_tup, cont_own, cont_ali, contS_own, ownL_own, ownO_own, stor_dat, stor_own, iD_int, ii_int, i1_int, sAddU_int, sAddU_tup, truS_none, truS_bool, truS_int, truS_list, truS_tup, truS_ali, srcOf_list, srcOf_tup, srcOf_ali, Ab.got_some, gZ_nil, gC_cons, gT_tup, onlyDat_dat, notAli_dat, notAli_own, getO_some, fin_none, fin_some, finO_own, callA_nil, callA_dat, callA_ali, argS_none, argS_some, rt_ad, nx_ad, isN_none, isN_tup, notN_none, notN_tup, aNx, aRet, aIf, aSet, aAug, aDrop, aNever, aC, aBin, aBinR, aUn, aTst, aChain, aNot, aAnd, aOr, aIfE, aAndV, aOrV, aNotV, aNil, aCons, aTup, aLst, aCall1, aCallD, aIx, aApp, aExt, aSetIx, aTru, sLen, sAny, sAll, sSum, sList, sTuple, fI, fC, fB, aSeqI, aRng1, aFor, aFrz, gN, aUnp, aLc, aYes, aCall, aRep, aRgT, turn, wipeA, br_true, br_false, List.map_nil, List.map_cons, List.nil_append, List.cons_append, List.replicate, List.getElem?_cons_zero, List.getElem?_cons_succ, List.set_cons_zero, List.set_cons_succ, List.length_cons, List.length_nil, sIn_int, sNotIn_int, sEq_int, sNe_int, sEq_bool, sNe_bool, sEq_str]
        refine ⟨ns, t, l, s, 5, rfl, rfl, g4, by decide, by decide, fun r t' l' s' r0 r1 hT' => ?_⟩
        simp only [aName_eq, nm_dat, nm_own, dd_dat, dd_own, bb_bool, arg_dat, arg_own, arg_ali, das_nil, das_dat, cont_list, cont_tup, cont_own, cont_ali, contS_own, ownL_own, ownO_own, stor_dat, stor_own, iD_int, ii_int, i1_int, sAddU_int, sAddU_tup, truS_none, truS_bool, truS_int, truS_list, truS_tup, truS_ali, srcOf_list, srcOf_tup, srcOf_ali, Ab.got_some, gZ_nil, gC_cons, gT_tup, onlyDat_dat, notAli_dat, notAli_own, getO_some, fin_none, fin_some, finO_own, callA_nil, callA_dat, callA_ali, argS_none, argS_some, rt_ad, nx_ad, isN_none, isN_tup, notN_none, notN_tup, aNx, aRet, aIf, aSet, aAug, aDrop, aNever, aC, aBin, aBinR, aUn, aTst, aChain, aNot, aAnd, aOr, aIfE, aAndV, aOrV, aNotV, aNil, aCons, aTup, aLst, aCall1, aCallD, aIx, aApp, aExt, aSetIx, aTru, sLen, sAny, sAll, sSum, sList, sTuple, fI, fC, fB, aSeqI, aRng1, aFor, aFrz, gN, aUnp, aLc, aYes, aCall, aRep, aRgT, turn, wipeA, br_true, br_false, List.map_nil, List.map_cons, List.nil_append, List.cons_append, List.replicate, List.getElem?_cons_zero, List.getElem?_cons_succ, List.set_cons_zero, List.set_cons_succ, List.length_cons, List.length_nil, sIn_int, sNotIn_int, sEq_int, sNe_int, sEq_bool, sNe_bool, sEq_str]
        refine ka _ _ ⟨zs ++ [r], t', l', s', by simp [g1], fun q hq => ?_, by rw [g3, List.map_append]; rfl, hT', rfl⟩
        rcases List.mem_append.mp hq with hq | hq
        · exact g2 q hq
        · rw [List.mem_singleton.mp hq]
          exact ⟨r0, r1⟩
      · rintro acc ρ ⟨zs, t, l, s, g1, g2, rfl, g4, rfl⟩
        rw [List.length_range] at g1
        simp only [aName_eq, nm_dat, nm_own, dd_dat, dd_own, bb_bool, arg_dat, arg_own, arg_ali, das_nil, das_dat, cont_list, cont_tup, cont_own, cont_ali, contS_own, ownL_own, ownO_own, stor_dat, stor_own, iD_int, ii_int, i1_int, sAddU_int, sAddU_tup, truS_none, truS_bool, truS_int, truS_list, truS_tup, truS_ali, srcOf_list, srcOf_tup, srcOf_ali, Ab.got_some, gZ_nil, gC_cons, gT_tup, onlyDat_dat, notAli_dat, notAli_own, getO_some, fin_none, fin_some, finO_own, callA_nil, callA_dat, callA_ali, argS_none, argS_some, rt_ad, nx_ad, isN_none, isN_tup, notN_none, notN_tup, aNx, aRet, aIf, aSet, aAug, aDrop, aNever, aC, aBin, aBinR, aUn, aTst, aChain, aNot, aAnd, aOr, aIfE, aAndV, aOrV, aNotV, aNil, aCons, aTup, aLst, aCall1, aCallD, aIx, aApp, aExt, aSetIx, aTru, sLen, sAny, sAll, sSum, sList, sTuple, fI, fC, fB, aSeqI, aRng1, aFor, aFrz, gN, aUnp, aLc, aYes, aCall, aRep, aRgT, turn, wipeA, br_true, br_false, List.map_nil, List.map_cons, List.nil_append, List.cons_append, List.replicate, List.getElem?_cons_zero, List.getElem?_cons_succ, List.set_cons_zero, List.set_cons_succ, List.length_cons, List.length_nil, sIn_int, sNotIn_int, sEq_int, sNe_int, sEq_bool, sNe_bool, sEq_str]
        have g5 : zs.sum ≤ (zs.length : Int) * 4 := sum_le_all fun x hx => by have := (g2 x hx).2; omega
        exact kn _ ⟨zs, t, l, s, by omega, fun x hx => (g2 x hx).1, by omega, g4, rfl⟩
    rintro ρ ⟨ws, t, l, s, hws, ws0, hbig, hT, rfl⟩
    refine cut1 [some (.dat (.list (ns.map PyData.int))), some (.own none (.lst (tape ns t l s))), some (.dat (.int p)), some (.dat (eR W)), x4, some (.dat (eR Q)), some (.dat (.bool (meetB W Q))), none, none, some (.dat (eStale W Q)), some (.own none (.lst (run.map eRun))), some (.dat (.tuple ((playF p run).map eP))), none, none, some (.dat (eClash W Q)), some (.dat (.bool (meetB W W))), some (.dat (eR (dualF p W))), some (.dat (tI least)), none, some (.dat (tI ws)), some (.dat (.int ws.sum)), none, none, none, none, none, none] (fun Kn kn => ?_) ?_
    · simp only [tI, intsD_map, aName_eq, nm_dat, nm_own, dd_dat, dd_own, bb_bool, arg_dat, arg_own, arg_ali, das_nil, das_dat, cont_list, cont_tup, cont_own, cont_ali, contS_own, ownL_own, ownO_own, stor_dat, stor_own, iD_int, ii_int, i1_int, sAddU_int, sAddU_tup, truS_none, truS_bool, truS_int, truS_list, truS_tup, truS_ali, srcOf_list, srcOf_tup, srcOf_ali, Ab.got_some, gZ_nil, gC_cons, gT_tup, onlyDat_dat, notAli_dat, notAli_own, getO_some, fin_none, fin_some, finO_own, callA_nil, callA_dat, callA_ali, argS_none, argS_some, rt_ad, nx_ad, isN_none, isN_tup, notN_none, notN_tup, aNx, aRet, aIf, aSet, aAug, aDrop, aNever, aC, aBin, aBinR, aUn, aTst, aChain, aNot, aAnd, aOr, aIfE, aAndV, aOrV, aNotV, aNil, aCons, aTup, aLst, aCall1, aCallD, aIx, aApp, aExt, aSetIx, aTru, sLen, sAny, sAll, sSum, sList, sTuple, fI, fC, fB, aSeqI, aRng1, aFor, aFrz, gN, aUnp, aLc, aYes, aCall, aRep, aRgT, turn, wipeA, br_true, br_false, List.map_nil, List.map_cons, List.nil_append, List.cons_append, List.replicate, List.getElem?_cons_zero, List.getElem?_cons_succ, List.set_cons_zero, List.set_cons_succ, List.length_cons, List.length_nil, sIn_int, sNotIn_int, sEq_int, sNe_int, sEq_bool, sNe_bool, sEq_str]
      exact kn
    refine cut (fun ρ => ∃ (t l s : Int) (x21 x22 x23 : Option AV), OkTape ns t l s ∧ ρ = [some (.dat (.list (ns.map PyData.int))), some (.own none (.lst (tape ns t l s))), some (.dat (.int p)), some (.dat (eR W)), x4, some (.dat (eR Q)), some (.dat (.bool (meetB W Q))), none, none, some (.dat (eStale W Q)), some (.own none (.lst (run.map eRun))), some (.dat (.tuple ((playF p run).map eP))), none, none, some (.dat (eClash W Q)), some (.dat (.bool (meetB W W))), some (.dat (eR (dualF p W))), some (.dat (tI least)), none, some (.dat (tI ws)), some (.dat (.int ws.sum)), x21, x22, x23, none, none, none]) (fun Kn kn => ?_) ?_
    · have hsum : ws.sum ≤ 1000000 := by omega
      simp only [aName_eq, nm_dat, nm_own, dd_dat, dd_own, bb_bool, arg_dat, arg_own, arg_ali, das_nil, das_dat, cont_list, cont_tup, cont_own, cont_ali, contS_own, ownL_own, ownO_own, stor_dat, stor_own, iD_int, ii_int, i1_int, sAddU_int, sAddU_tup, truS_none, truS_bool, truS_int, truS_list, truS_tup, truS_ali, srcOf_list, srcOf_tup, srcOf_ali, Ab.got_some, gZ_nil, gC_cons, gT_tup, onlyDat_dat, notAli_dat, notAli_own, getO_some, fin_none, fin_some, finO_own, callA_nil, callA_dat, callA_ali, argS_none, argS_some, rt_ad, nx_ad, isN_none, isN_tup, notN_none, notN_tup, aNx, aRet, aIf, aSet, aAug, aDrop, aNever, aC, aBin, aBinR, aUn, aTst, aChain, aNot, aAnd, aOr, aIfE, aAndV, aOrV, aNotV, aNil, aCons, aTup, aLst, aCall1, aCallD, aIx, aApp, aExt, aSetIx, aTru, sLen, sAny, sAll, sSum, sList, sTuple, fI, fC, fB, aSeqI, aRng1, aFor, aFrz, gN, aUnp, aLc, aYes, aCall, aRep, aRgT, turn, wipeA, br_true, br_false, List.map_nil, List.map_cons, List.nil_append, List.cons_append, List.replicate, List.getElem?_cons_zero, List.getElem?_cons_succ, List.set_cons_zero, List.set_cons_succ, List.length_cons, List.length_nil, sIn_int, sNotIn_int, sEq_int, sNe_int, sEq_bool, sNe_bool, sEq_str]
      refine ⟨fun hwhole => ?_, fun _ => kn _ ⟨t, l, s, none, none, none, hT, rfl⟩⟩
      have hwhole : 0 < ws.sum := of_decide_eq_true hwhole
      refine cut (fun ρ => ∃ (need t l s : Int), 1 ≤ need ∧ need ≤ ws.sum ∧ OkTape ns t l s ∧ ρ = [some (.dat (.list (ns.map PyData.int))), some (.own none (.lst (tape ns t l s))), some (.dat (.int p)), some (.dat (eR W)), x4, some (.dat (eR Q)), some (.dat (.bool (meetB W Q))), none, none, some (.dat (eStale W Q)), some (.own none (.lst (run.map eRun))), some (.dat (.tuple ((playF p run).map eP))), none, none, some (.dat (eClash W Q)), some (.dat (.bool (meetB W W))), some (.dat (eR (dualF p W))), some (.dat (tI least)), none, some (.dat (tI ws)), some (.dat (.int ws.sum)), some (.dat (.int need)), none, none, none, none, none]) (fun Kn2 kn2 => ?_) ?_
      · simp only [aName_eq, nm_dat, nm_own, dd_dat, dd_own, bb_bool, arg_dat, arg_own, arg_ali, das_nil, das_dat, cont_list, cont_tup, cont_own, cont_ali, contS_own, ownL_own, ownO_own, stor_dat, stor_own, iD_int, ii_int, i1_int, sAddU_int, sAddU_tup, truS_none, truS_bool, truS_int, truS_list, truS_tup, truS_ali, srcOf_list, srcOf_tup, srcOf_ali, Ab.got_some, gZ_nil, gC_cons, gT_tup, onlyDat_dat, notAli_dat, notAli_own, getO_some, fin_none, fin_some, finO_own, callA_nil, callA_dat, callA_ali, argS_none, argS_some, rt_ad, nx_ad, isN_none, isN_tup, notN_none, notN_tup, aNx, aRet, aIf, aSet, aAug, aDrop, aNever, aC, aBin, aBinR, aUn, aTst, aChain, aNot, aAnd, aOr, aIfE, aAndV, aOrV, aNotV, aNil, aCons, aTup, aLst, aCall1, aCallD, aIx, aApp, aExt, aSetIx, aTru, sLen, sAny, sAll, sSum, sList, sTuple, fI, fC, fB, aSeqI, aRng1, aFor, aFrz, gN, aUnp, aLc, aYes, aCall, aRep, aRgT, turn, wipeA, br_true, br_false, List.map_nil, List.map_cons, List.nil_append, List.cons_append, List.replicate, List.getElem?_cons_zero, List.getElem?_cons_succ, List.set_cons_zero, List.set_cons_succ, List.length_cons, List.length_nil, sIn_int, sNotIn_int, sEq_int, sNe_int, sEq_bool, sNe_bool, sEq_str]
        refine ⟨ns, t, l, s, ws.sum, rfl, rfl, hT, by omega, hsum, fun r t' l' s' r0 r1 hT' => ?_⟩
        simp only [aName_eq, nm_dat, nm_own, dd_dat, dd_own, bb_bool, arg_dat, arg_own, arg_ali, das_nil, das_dat, cont_list, cont_tup, cont_own, cont_ali, contS_own, ownL_own, ownO_own, stor_dat, stor_own, iD_int, ii_int, i1_int, sAddU_int, sAddU_tup, truS_none, truS_bool, truS_int, truS_list, truS_tup, truS_ali, srcOf_list, srcOf_tup, srcOf_ali, Ab.got_some, gZ_nil, gC_cons, gT_tup, onlyDat_dat, notAli_dat, notAli_own, getO_some, fin_none, fin_some, finO_own, callA_nil, callA_dat, callA_ali, argS_none, argS_some, rt_ad, nx_ad, isN_none, isN_tup, notN_none, notN_tup, aNx, aRet, aIf, aSet, aAug, aDrop, aNever, aC, aBin, aBinR, aUn, aTst, aChain, aNot, aAnd, aOr, aIfE, aAndV, aOrV, aNotV, aNil, aCons, aTup, aLst, aCall1, aCallD, aIx, aApp, aExt, aSetIx, aTru, sLen, sAny, sAll, sSum, sList, sTuple, fI, fC, fB, aSeqI, aRng1, aFor, aFrz, gN, aUnp, aLc, aYes, aCall, aRep, aRgT, turn, wipeA, br_true, br_false, List.map_nil, List.map_cons, List.nil_append, List.cons_append, List.replicate, List.getElem?_cons_zero, List.getElem?_cons_succ, List.set_cons_zero, List.set_cons_succ, List.length_cons, List.length_nil, sIn_int, sNotIn_int, sEq_int, sNe_int, sEq_bool, sNe_bool, sEq_str]
        exact kn2 _ ⟨1 + r, t', l', s', by omega, by omega, hT', rfl⟩
      rintro ρ ⟨need, t, l, s, n1, n2, hT, rfl⟩
      have n1' : 1 ≤ ws.sum + 1 - need := by omega
      have n2' : ws.sum + 1 - need ≤ ws.sum := by omega
      have hM := maj_ok ws0 hws p1 p5 n1 n2
      have hM' := maj_ok ws0 hws p1 p5 n1' n2'
      have hMl := hM.few
      have hMs : ∀ v ∈ majF ws need, v.length ≤ 5 := fun v hv => by have := (hM.each v hv).len; omega
      have hd1 := maj_dual ws0 hws p1 n1 n2
      have hd2 := maj_dual ws0 hws p1 n1' n2'
      rw [show ws.sum + 1 - (ws.sum + 1 - need) = need by omega] at hd2
      refine cut (fun ρ => ρ = [some (.dat (.list (ns.map PyData.int))), some (.own none (.lst (tape ns t l s))), some (.dat (.int p)), some (.dat (eR W)), x4, some (.dat (eR Q)), some (.dat (.bool (meetB W Q))), none, none, some (.dat (eStale W Q)), some (.own none (.lst (run.map eRun))), some (.dat (.tuple ((playF p run).map eP))), none, none, some (.dat (eClash W Q)), some (.dat (.bool (meetB W W))), some (.dat (eR (dualF p W))), some (.dat (tI least)), none, some (.dat (tI ws)), some (.dat (.int ws.sum)), some (.dat (.int need)), some (.dat (eR (majF ws need))), none, none, none, none]) (fun Kn2 kn2 => ?_) ?_
      · simp only [aName_eq, nm_dat, nm_own, dd_dat, dd_own, bb_bool, arg_dat, arg_own, arg_ali, das_nil, das_dat, cont_list, cont_tup, cont_own, cont_ali, contS_own, ownL_own, ownO_own, stor_dat, stor_own, iD_int, ii_int, i1_int, sAddU_int, sAddU_tup, truS_none, truS_bool, truS_int, truS_list, truS_tup, truS_ali, srcOf_list, srcOf_tup, srcOf_ali, Ab.got_some, gZ_nil, gC_cons, gT_tup, onlyDat_dat, notAli_dat, notAli_own, getO_some, fin_none, fin_some, finO_own, callA_nil, callA_dat, callA_ali, argS_none, argS_some, rt_ad, nx_ad, isN_none, isN_tup, notN_none, notN_tup, aNx, aRet, aIf, aSet, aAug, aDrop, aNever, aC, aBin, aBinR, aUn, aTst, aChain, aNot, aAnd, aOr, aIfE, aAndV, aOrV, aNotV, aNil, aCons, aTup, aLst, aCall1, aCallD, aIx, aApp, aExt, aSetIx, aTru, sLen, sAny, sAll, sSum, sList, sTuple, fI, fC, fB, aSeqI, aRng1, aFor, aFrz, gN, aUnp, aLc, aYes, aCall, aRep, aRgT, turn, wipeA, br_true, br_false, List.map_nil, List.map_cons, List.nil_append, List.cons_append, List.replicate, List.getElem?_cons_zero, List.getElem?_cons_succ, List.set_cons_zero, List.set_cons_succ, List.length_cons, List.length_nil, sIn_int, sNotIn_int, sEq_int, sNe_int, sEq_bool, sNe_bool, sEq_str]
        refine ⟨ws, need, rfl, rfl, by omega, by omega, ws0, n1, n2, rfl, ?_⟩
        simp only [aName_eq, nm_dat, nm_own, dd_dat, dd_own, bb_bool, arg_dat, arg_own, arg_ali, das_nil, das_dat, cont_list, cont_tup, cont_own, cont_ali, contS_own, ownL_own, ownO_own, stor_dat, stor_own, iD_int, ii_int, i1_int, sAddU_int, sAddU_tup, truS_none, truS_bool, truS_int, truS_list, truS_tup, truS_ali, srcOf_list, srcOf_tup, srcOf_ali, Ab.got_some, gZ_nil, gC_cons, gT_tup, onlyDat_dat, notAli_dat, notAli_own, getO_some, fin_none, fin_some, finO_own, callA_nil, callA_dat, callA_ali, argS_none, argS_some, rt_ad, nx_ad, isN_none, isN_tup, notN_none, notN_tup, aNx, aRet, aIf, aSet, aAug, aDrop, aNever, aC, aBin, aBinR, aUn, aTst, aChain, aNot, aAnd, aOr, aIfE, aAndV, aOrV, aNotV, aNil, aCons, aTup, aLst, aCall1, aCallD, aIx, aApp, aExt, aSetIx, aTru, sLen, sAny, sAll, sSum, sList, sTuple, fI, fC, fB, aSeqI, aRng1, aFor, aFrz, gN, aUnp, aLc, aYes, aCall, aRep, aRgT, turn, wipeA, br_true, br_false, List.map_nil, List.map_cons, List.nil_append, List.cons_append, List.replicate, List.getElem?_cons_zero, List.getElem?_cons_succ, List.set_cons_zero, List.set_cons_succ, List.length_cons, List.length_nil, sIn_int, sNotIn_int, sEq_int, sNe_int, sEq_bool, sNe_bool, sEq_str]
        exact kn2 _ rfl
      rintro ρ rfl
      refine cut (fun ρ => ρ = [some (.dat (.list (ns.map PyData.int))), some (.own none (.lst (tape ns t l s))), some (.dat (.int p)), some (.dat (eR W)), x4, some (.dat (eR Q)), some (.dat (.bool (meetB W Q))), none, none, some (.dat (eStale W Q)), some (.own none (.lst (run.map eRun))), some (.dat (.tuple ((playF p run).map eP))), none, none, some (.dat (eClash W Q)), some (.dat (.bool (meetB W W))), some (.dat (eR (dualF p W))), some (.dat (tI least)), none, some (.dat (tI ws)), some (.dat (.int ws.sum)), some (.dat (.int need)), some (.dat (eR (majF ws need))), none, none, none, none]) (fun Kn2 kn2 => ?_) ?_
      · simp only [eR, aName_eq, nm_dat, nm_own, dd_dat, dd_own, bb_bool, arg_dat, arg_own, arg_ali, das_nil, das_dat, cont_list, cont_tup, cont_own, cont_ali, contS_own, ownL_own, ownO_own, stor_dat, stor_own, iD_int, ii_int, i1_int, sAddU_int, sAddU_tup, truS_none, truS_bool, truS_int, truS_list, truS_tup, truS_ali, srcOf_list, srcOf_tup, srcOf_ali, Ab.got_some, gZ_nil, gC_cons, gT_tup, onlyDat_dat, notAli_dat, notAli_own, getO_some, fin_none, fin_some, finO_own, callA_nil, callA_dat, callA_ali, argS_none, argS_some, rt_ad, nx_ad, isN_none, isN_tup, notN_none, notN_tup, aNx, aRet, aIf, aSet, aAug, aDrop, aNever, aC, aBin, aBinR, aUn, aTst, aChain, aNot, aAnd, aOr, aIfE, aAndV, aOrV, aNotV, aNil, aCons, aTup, aLst, aCall1, aCallD, aIx, aApp, aExt, aSetIx, aTru, sLen, sAny, sAll, sSum, sList, sTuple, fI, fC, fB, aSeqI, aRng1, aFor, aFrz, gN, aUnp, aLc, aYes, aCall, aRep, aRgT, turn, wipeA, br_true, br_false, List.map_nil, List.map_cons, List.nil_append, List.cons_append, List.replicate, List.getElem?_cons_zero, List.getElem?_cons_succ, List.set_cons_zero, List.set_cons_succ, List.length_cons, List.length_nil, sIn_int, sNotIn_int, sEq_int, sNe_int, sEq_bool, sNe_bool, sEq_str]
        refine lc_pure (enc := tI) (fun row => decide (wt ws row < need)) tI trivial (by simp [Ab.freeOf]) (small_len (by omega)) (fun row hrow Ka Ks ka ks => ?_) ?_
        · obtain ⟨r1, _⟩ := (maj_mem ws0 hws p1 n1 n2).mp hrow
          have hrl := hMs row hrow
          simp only [tI, aName_eq, nm_dat, nm_own, dd_dat, dd_own, bb_bool, arg_dat, arg_own, arg_ali, das_nil, das_dat, cont_list, cont_tup, cont_own, cont_ali, contS_own, ownL_own, ownO_own, stor_dat, stor_own, iD_int, ii_int, i1_int, sAddU_int, sAddU_tup, truS_none, truS_bool, truS_int, truS_list, truS_tup, truS_ali, srcOf_list, srcOf_tup, srcOf_ali, Ab.got_some, gZ_nil, gC_cons, gT_tup, onlyDat_dat, notAli_dat, notAli_own, getO_some, fin_none, fin_some, finO_own, callA_nil, callA_dat, callA_ali, argS_none, argS_some, rt_ad, nx_ad, isN_none, isN_tup, notN_none, notN_tup, aNx, aRet, aIf, aSet, aAug, aDrop, aNever, aC, aBin, aBinR, aUn, aTst, aChain, aNot, aAnd, aOr, aIfE, aAndV, aOrV, aNotV, aNil, aCons, aTup, aLst, aCall1, aCallD, aIx, aApp, aExt, aSetIx, aTru, sLen, sAny, sAll, sSum, sList, sTuple, fI, fC, fB, aSeqI, aRng1, aFor, aFrz, gN, aUnp, aLc, aYes, aCall, aRep, aRgT, turn, wipeA, br_true, br_false, List.map_nil, List.map_cons, List.nil_append, List.cons_append, List.replicate, List.getElem?_cons_zero, List.getElem?_cons_succ, List.set_cons_zero, List.set_cons_succ, List.length_cons, List.length_nil, sIn_int, sNotIn_int, sEq_int, sNe_int, sEq_bool, sNe_bool, sEq_str]
          refine lc_map (enc := PyData.int) (fun x => .int (ws.getD x.toNat 0)) trivial ⟨n4, by simp, trivial⟩ (small_len (by omega)) (fun x hx Kb Ks2 kb => ?_) ?_
          · have hx2 := r1.rng x hx
            simp only [aName_eq, nm_dat, nm_own, dd_dat, dd_own, bb_bool, arg_dat, arg_own, arg_ali, das_nil, das_dat, cont_list, cont_tup, cont_own, cont_ali, contS_own, ownL_own, ownO_own, stor_dat, stor_own, iD_int, ii_int, i1_int, sAddU_int, sAddU_tup, truS_none, truS_bool, truS_int, truS_list, truS_tup, truS_ali, srcOf_list, srcOf_tup, srcOf_ali, Ab.got_some, gZ_nil, gC_cons, gT_tup, onlyDat_dat, notAli_dat, notAli_own, getO_some, fin_none, fin_some, finO_own, callA_nil, callA_dat, callA_ali, argS_none, argS_some, rt_ad, nx_ad, isN_none, isN_tup, notN_none, notN_tup, aNx, aRet, aIf, aSet, aAug, aDrop, aNever, aC, aBin, aBinR, aUn, aTst, aChain, aNot, aAnd, aOr, aIfE, aAndV, aOrV, aNotV, aNil, aCons, aTup, aLst, aCall1, aCallD, aIx, aApp, aExt, aSetIx, aTru, sLen, sAny, sAll, sSum, sList, sTuple, fI, fC, fB, aSeqI, aRng1, aFor, aFrz, gN, aUnp, aLc, aYes, aCall, aRep, aRgT, turn, wipeA, br_true, br_false, List.map_nil, List.map_cons, List.nil_append, List.cons_append, List.replicate, List.getElem?_cons_zero, List.getElem?_cons_succ, List.set_cons_zero, List.set_cons_succ, List.length_cons, List.length_nil, sIn_int, sNotIn_int, sEq_int, sNe_int, sEq_bool, sNe_bool, sEq_str]
            rw [atI_nn hx2.1 (by omega)]
            exact kb
          · rw [show (row.map fun x => PyData.int (ws.getD x.toNat 0)) = (row.map fun x => ws.getD x.toNat 0).map PyData.int by rw [List.map_map]; rfl]
            simp only [intsD_map, aName_eq, nm_dat, nm_own, dd_dat, dd_own, bb_bool, arg_dat, arg_own, arg_ali, das_nil, das_dat, cont_list, cont_tup, cont_own, cont_ali, contS_own, ownL_own, ownO_own, stor_dat, stor_own, iD_int, ii_int, i1_int, sAddU_int, sAddU_tup, truS_none, truS_bool, truS_int, truS_list, truS_tup, truS_ali, srcOf_list, srcOf_tup, srcOf_ali, Ab.got_some, gZ_nil, gC_cons, gT_tup, onlyDat_dat, notAli_dat, notAli_own, getO_some, fin_none, fin_some, finO_own, callA_nil, callA_dat, callA_ali, argS_none, argS_some, rt_ad, nx_ad, isN_none, isN_tup, notN_none, notN_tup, aNx, aRet, aIf, aSet, aAug, aDrop, aNever, aC, aBin, aBinR, aUn, aTst, aChain, aNot, aAnd, aOr, aIfE, aAndV, aOrV, aNotV, aNil, aCons, aTup, aLst, aCall1, aCallD, aIx, aApp, aExt, aSetIx, aTru, sLen, sAny, sAll, sSum, sList, sTuple, fI, fC, fB, aSeqI, aRng1, aFor, aFrz, gN, aUnp, aLc, aYes, aCall, aRep, aRgT, turn, wipeA, br_true, br_false, List.map_nil, List.map_cons, List.nil_append, List.cons_append, List.replicate, List.getElem?_cons_zero, List.getElem?_cons_succ, List.set_cons_zero, List.set_cons_succ, List.length_cons, List.length_nil, sIn_int, sNotIn_int, sEq_int, sNe_int, sEq_bool, sNe_bool, sEq_str]
            exact ⟨ka, ks⟩
        · have e2 : ((majF ws need).any fun row => decide (wt ws row < need)) = false := by
            rw [List.any_eq_false]
            intro row hrow
            obtain ⟨_, r2, _⟩ := (maj_mem ws0 hws p1 n1 n2).mp hrow
            simp
            omega
          simp only [List.length_map, lenP, e2, aName_eq, nm_dat, nm_own, dd_dat, dd_own, bb_bool, arg_dat, arg_own, arg_ali, das_nil, das_dat, cont_list, cont_tup, cont_own, cont_ali, contS_own, ownL_own, ownO_own, stor_dat, stor_own, iD_int, ii_int, i1_int, sAddU_int, sAddU_tup, truS_none, truS_bool, truS_int, truS_list, truS_tup, truS_ali, srcOf_list, srcOf_tup, srcOf_ali, Ab.got_some, gZ_nil, gC_cons, gT_tup, onlyDat_dat, notAli_dat, notAli_own, getO_some, fin_none, fin_some, finO_own, callA_nil, callA_dat, callA_ali, argS_none, argS_some, rt_ad, nx_ad, isN_none, isN_tup, notN_none, notN_tup, aNx, aRet, aIf, aSet, aAug, aDrop, aNever, aC, aBin, aBinR, aUn, aTst, aChain, aNot, aAnd, aOr, aIfE, aAndV, aOrV, aNotV, aNil, aCons, aTup, aLst, aCall1, aCallD, aIx, aApp, aExt, aSetIx, aTru, sLen, sAny, sAll, sSum, sList, sTuple, fI, fC, fB, aSeqI, aRng1, aFor, aFrz, gN, aUnp, aLc, aYes, aCall, aRep, aRgT, turn, wipeA, br_true, br_false, List.map_nil, List.map_cons, List.nil_append, List.cons_append, List.replicate, List.getElem?_cons_zero, List.getElem?_cons_succ, List.set_cons_zero, List.set_cons_succ, List.length_cons, List.length_nil, sIn_int, sNotIn_int, sEq_int, sNe_int, sEq_bool, sNe_bool, sEq_str]
          refine ⟨majF ws need, rfl, rfl, by omega, fun r hr => ⟨(hM.each r hr).ne, by have := hMs r hr; omega⟩, fun o1 nd me so => ?_⟩
          have em := maj_eq ws0 hws p1 n1 n2
          have e1 : o1 = majF ws need := by
            rw [em] at me ⊢
            exact uniq nd mins_nodup (fun x => (me x).trans (mins_least hp0 rfl x).symm) so mins_srt
          subst e1
          simp only [aName_eq, nm_dat, nm_own, dd_dat, dd_own, bb_bool, arg_dat, arg_own, arg_ali, das_nil, das_dat, cont_list, cont_tup, cont_own, cont_ali, contS_own, ownL_own, ownO_own, stor_dat, stor_own, iD_int, ii_int, i1_int, sAddU_int, sAddU_tup, truS_none, truS_bool, truS_int, truS_list, truS_tup, truS_ali, srcOf_list, srcOf_tup, srcOf_ali, Ab.got_some, gZ_nil, gC_cons, gT_tup, onlyDat_dat, notAli_dat, notAli_own, getO_some, fin_none, fin_some, finO_own, callA_nil, callA_dat, callA_ali, argS_none, argS_some, rt_ad, nx_ad, isN_none, isN_tup, notN_none, notN_tup, aNx, aRet, aIf, aSet, aAug, aDrop, aNever, aC, aBin, aBinR, aUn, aTst, aChain, aNot, aAnd, aOr, aIfE, aAndV, aOrV, aNotV, aNil, aCons, aTup, aLst, aCall1, aCallD, aIx, aApp, aExt, aSetIx, aTru, sLen, sAny, sAll, sSum, sList, sTuple, fI, fC, fB, aSeqI, aRng1, aFor, aFrz, gN, aUnp, aLc, aYes, aCall, aRep, aRgT, turn, wipeA, br_true, br_false, List.map_nil, List.map_cons, List.nil_append, List.cons_append, List.replicate, List.getElem?_cons_zero, List.getElem?_cons_succ, List.set_cons_zero, List.set_cons_succ, List.length_cons, List.length_nil, sIn_int, sNotIn_int, sEq_int, sNe_int, sEq_bool, sNe_bool, sEq_str]
          refine ⟨trivial, sNe_of (faith_lst (faith_tup faith_int)) (n := 2) (fun a => depth_lst (fun b => Nat.le_of_eq (depth_tI b)) a) (by decide) ?_⟩
          simp only [decide_true, Bool.not_true, aName_eq, nm_dat, nm_own, dd_dat, dd_own, bb_bool, arg_dat, arg_own, arg_ali, das_nil, das_dat, cont_list, cont_tup, cont_own, cont_ali, contS_own, ownL_own, ownO_own, stor_dat, stor_own, iD_int, ii_int, i1_int, sAddU_int, sAddU_tup, truS_none, truS_bool, truS_int, truS_list, truS_tup, truS_ali, srcOf_list, srcOf_tup, srcOf_ali, Ab.got_some, gZ_nil, gC_cons, gT_tup, onlyDat_dat, notAli_dat, notAli_own, getO_some, fin_none, fin_some, finO_own, callA_nil, callA_dat, callA_ali, argS_none, argS_some, rt_ad, nx_ad, isN_none, isN_tup, notN_none, notN_tup, aNx, aRet, aIf, aSet, aAug, aDrop, aNever, aC, aBin, aBinR, aUn, aTst, aChain, aNot, aAnd, aOr, aIfE, aAndV, aOrV, aNotV, aNil, aCons, aTup, aLst, aCall1, aCallD, aIx, aApp, aExt, aSetIx, aTru, sLen, sAny, sAll, sSum, sList, sTuple, fI, fC, fB, aSeqI, aRng1, aFor, aFrz, gN, aUnp, aLc, aYes, aCall, aRep, aRgT, turn, wipeA, br_true, br_false, List.map_nil, List.map_cons, List.nil_append, List.cons_append, List.replicate, List.getElem?_cons_zero, List.getElem?_cons_succ, List.set_cons_zero, List.set_cons_succ, List.length_cons, List.length_nil, sIn_int, sNotIn_int, sEq_int, sNe_int, sEq_bool, sNe_bool, sEq_str]
          exact kn2 _ rfl
      rintro ρ rfl
      refine cut (fun ρ => ρ = [some (.dat (.list (ns.map PyData.int))), some (.own none (.lst (tape ns t l s))), some (.dat (.int p)), some (.dat (eR W)), x4, some (.dat (eR Q)), some (.dat (.bool (meetB W Q))), none, none, some (.dat (eStale W Q)), some (.own none (.lst (run.map eRun))), some (.dat (.tuple ((playF p run).map eP))), none, none, some (.dat (eClash W Q)), some (.dat (.bool (meetB W W))), some (.dat (eR (dualF p W))), some (.dat (tI least)), none, some (.dat (tI ws)), some (.dat (.int ws.sum)), some (.dat (.int need)), some (.dat (eR (majF ws need))), some (.dat (eR (majF ws (ws.sum + 1 - need)))), none, none, none]) (fun Kn2 kn2 => ?_) ?_
      · simp only [aName_eq, nm_dat, nm_own, dd_dat, dd_own, bb_bool, arg_dat, arg_own, arg_ali, das_nil, das_dat, cont_list, cont_tup, cont_own, cont_ali, contS_own, ownL_own, ownO_own, stor_dat, stor_own, iD_int, ii_int, i1_int, sAddU_int, sAddU_tup, truS_none, truS_bool, truS_int, truS_list, truS_tup, truS_ali, srcOf_list, srcOf_tup, srcOf_ali, Ab.got_some, gZ_nil, gC_cons, gT_tup, onlyDat_dat, notAli_dat, notAli_own, getO_some, fin_none, fin_some, finO_own, callA_nil, callA_dat, callA_ali, argS_none, argS_some, rt_ad, nx_ad, isN_none, isN_tup, notN_none, notN_tup, aNx, aRet, aIf, aSet, aAug, aDrop, aNever, aC, aBin, aBinR, aUn, aTst, aChain, aNot, aAnd, aOr, aIfE, aAndV, aOrV, aNotV, aNil, aCons, aTup, aLst, aCall1, aCallD, aIx, aApp, aExt, aSetIx, aTru, sLen, sAny, sAll, sSum, sList, sTuple, fI, fC, fB, aSeqI, aRng1, aFor, aFrz, gN, aUnp, aLc, aYes, aCall, aRep, aRgT, turn, wipeA, br_true, br_false, List.map_nil, List.map_cons, List.nil_append, List.cons_append, List.replicate, List.getElem?_cons_zero, List.getElem?_cons_succ, List.set_cons_zero, List.set_cons_succ, List.length_cons, List.length_nil, sIn_int, sNotIn_int, sEq_int, sNe_int, sEq_bool, sNe_bool, sEq_str]
        refine ⟨ws, ws.sum + 1 - need, rfl, rfl, by omega, by omega, ws0, n1', n2', rfl, ?_⟩
        simp only [aName_eq, nm_dat, nm_own, dd_dat, dd_own, bb_bool, arg_dat, arg_own, arg_ali, das_nil, das_dat, cont_list, cont_tup, cont_own, cont_ali, contS_own, ownL_own, ownO_own, stor_dat, stor_own, iD_int, ii_int, i1_int, sAddU_int, sAddU_tup, truS_none, truS_bool, truS_int, truS_list, truS_tup, truS_ali, srcOf_list, srcOf_tup, srcOf_ali, Ab.got_some, gZ_nil, gC_cons, gT_tup, onlyDat_dat, notAli_dat, notAli_own, getO_some, fin_none, fin_some, finO_own, callA_nil, callA_dat, callA_ali, argS_none, argS_some, rt_ad, nx_ad, isN_none, isN_tup, notN_none, notN_tup, aNx, aRet, aIf, aSet, aAug, aDrop, aNever, aC, aBin, aBinR, aUn, aTst, aChain, aNot, aAnd, aOr, aIfE, aAndV, aOrV, aNotV, aNil, aCons, aTup, aLst, aCall1, aCallD, aIx, aApp, aExt, aSetIx, aTru, sLen, sAny, sAll, sSum, sList, sTuple, fI, fC, fB, aSeqI, aRng1, aFor, aFrz, gN, aUnp, aLc, aYes, aCall, aRep, aRgT, turn, wipeA, br_true, br_false, List.map_nil, List.map_cons, List.nil_append, List.cons_append, List.replicate, List.getElem?_cons_zero, List.getElem?_cons_succ, List.set_cons_zero, List.set_cons_succ, List.length_cons, List.length_nil, sIn_int, sNotIn_int, sEq_int, sNe_int, sEq_bool, sNe_bool, sEq_str]
        exact kn2 _ rfl
      rintro ρ rfl
      refine cut (fun ρ => ρ = [some (.dat (.list (ns.map PyData.int))), some (.own none (.lst (tape ns t l s))), some (.dat (.int p)), some (.dat (eR W)), x4, some (.dat (eR Q)), some (.dat (.bool (meetB W Q))), none, none, some (.dat (eStale W Q)), some (.own none (.lst (run.map eRun))), some (.dat (.tuple ((playF p run).map eP))), none, none, some (.dat (eClash W Q)), some (.dat (.bool (meetB W W))), some (.dat (eR (dualF p W))), some (.dat (tI least)), none, some (.dat (tI ws)), some (.dat (.int ws.sum)), some (.dat (.int need)), some (.dat (eR (majF ws need))), some (.dat (eR (majF ws (ws.sum + 1 - need)))), none, none, none]) (fun Kn2 kn2 => ?_) ?_
      · simp only [aName_eq, nm_dat, nm_own, dd_dat, dd_own, bb_bool, arg_dat, arg_own, arg_ali, das_nil, das_dat, cont_list, cont_tup, cont_own, cont_ali, contS_own, ownL_own, ownO_own, stor_dat, stor_own, iD_int, ii_int, i1_int, sAddU_int, sAddU_tup, truS_none, truS_bool, truS_int, truS_list, truS_tup, truS_ali, srcOf_list, srcOf_tup, srcOf_ali, Ab.got_some, gZ_nil, gC_cons, gT_tup, onlyDat_dat, notAli_dat, notAli_own, getO_some, fin_none, fin_some, finO_own, callA_nil, callA_dat, callA_ali, argS_none, argS_some, rt_ad, nx_ad, isN_none, isN_tup, notN_none, notN_tup, aNx, aRet, aIf, aSet, aAug, aDrop, aNever, aC, aBin, aBinR, aUn, aTst, aChain, aNot, aAnd, aOr, aIfE, aAndV, aOrV, aNotV, aNil, aCons, aTup, aLst, aCall1, aCallD, aIx, aApp, aExt, aSetIx, aTru, sLen, sAny, sAll, sSum, sList, sTuple, fI, fC, fB, aSeqI, aRng1, aFor, aFrz, gN, aUnp, aLc, aYes, aCall, aRep, aRgT, turn, wipeA, br_true, br_false, List.map_nil, List.map_cons, List.nil_append, List.cons_append, List.replicate, List.getElem?_cons_zero, List.getElem?_cons_succ, List.set_cons_zero, List.set_cons_succ, List.length_cons, List.length_nil, sIn_int, sNotIn_int, sEq_int, sNe_int, sEq_bool, sNe_bool, sEq_str]
        refine ⟨p, majF ws need, rfl, rfl, hM, rfl, ?_⟩
        rw [hd1]
        simp only [aName_eq, nm_dat, nm_own, dd_dat, dd_own, bb_bool, arg_dat, arg_own, arg_ali, das_nil, das_dat, cont_list, cont_tup, cont_own, cont_ali, contS_own, ownL_own, ownO_own, stor_dat, stor_own, iD_int, ii_int, i1_int, sAddU_int, sAddU_tup, truS_none, truS_bool, truS_int, truS_list, truS_tup, truS_ali, srcOf_list, srcOf_tup, srcOf_ali, Ab.got_some, gZ_nil, gC_cons, gT_tup, onlyDat_dat, notAli_dat, notAli_own, getO_some, fin_none, fin_some, finO_own, callA_nil, callA_dat, callA_ali, argS_none, argS_some, rt_ad, nx_ad, isN_none, isN_tup, notN_none, notN_tup, aNx, aRet, aIf, aSet, aAug, aDrop, aNever, aC, aBin, aBinR, aUn, aTst, aChain, aNot, aAnd, aOr, aIfE, aAndV, aOrV, aNotV, aNil, aCons, aTup, aLst, aCall1, aCallD, aIx, aApp, aExt, aSetIx, aTru, sLen, sAny, sAll, sSum, sList, sTuple, fI, fC, fB, aSeqI, aRng1, aFor, aFrz, gN, aUnp, aLc, aYes, aCall, aRep, aRgT, turn, wipeA, br_true, br_false, List.map_nil, List.map_cons, List.nil_append, List.cons_append, List.replicate, List.getElem?_cons_zero, List.getElem?_cons_succ, List.set_cons_zero, List.set_cons_succ, List.length_cons, List.length_nil, sIn_int, sNotIn_int, sEq_int, sNe_int, sEq_bool, sNe_bool, sEq_str]
        refine sNe_of (faith_tup (faith_tup faith_int)) (n := 2) (fun a => depth_tup (fun b => Nat.le_of_eq (depth_tI b)) a) (by decide) ?_
        simp only [decide_true, Bool.not_true, aName_eq, nm_dat, nm_own, dd_dat, dd_own, bb_bool, arg_dat, arg_own, arg_ali, das_nil, das_dat, cont_list, cont_tup, cont_own, cont_ali, contS_own, ownL_own, ownO_own, stor_dat, stor_own, iD_int, ii_int, i1_int, sAddU_int, sAddU_tup, truS_none, truS_bool, truS_int, truS_list, truS_tup, truS_ali, srcOf_list, srcOf_tup, srcOf_ali, Ab.got_some, gZ_nil, gC_cons, gT_tup, onlyDat_dat, notAli_dat, notAli_own, getO_some, fin_none, fin_some, finO_own, callA_nil, callA_dat, callA_ali, argS_none, argS_some, rt_ad, nx_ad, isN_none, isN_tup, notN_none, notN_tup, aNx, aRet, aIf, aSet, aAug, aDrop, aNever, aC, aBin, aBinR, aUn, aTst, aChain, aNot, aAnd, aOr, aIfE, aAndV, aOrV, aNotV, aNil, aCons, aTup, aLst, aCall1, aCallD, aIx, aApp, aExt, aSetIx, aTru, sLen, sAny, sAll, sSum, sList, sTuple, fI, fC, fB, aSeqI, aRng1, aFor, aFrz, gN, aUnp, aLc, aYes, aCall, aRep, aRgT, turn, wipeA, br_true, br_false, List.map_nil, List.map_cons, List.nil_append, List.cons_append, List.replicate, List.getElem?_cons_zero, List.getElem?_cons_succ, List.set_cons_zero, List.set_cons_succ, List.length_cons, List.length_nil, sIn_int, sNotIn_int, sEq_int, sNe_int, sEq_bool, sNe_bool, sEq_str]
        refine ⟨p, majF ws (ws.sum + 1 - need), rfl, rfl, hM', rfl, ?_⟩
        rw [hd2]
        simp only [aName_eq, nm_dat, nm_own, dd_dat, dd_own, bb_bool, arg_dat, arg_own, arg_ali, das_nil, das_dat, cont_list, cont_tup, cont_own, cont_ali, contS_own, ownL_own, ownO_own, stor_dat, stor_own, iD_int, ii_int, i1_int, sAddU_int, sAddU_tup, truS_none, truS_bool, truS_int, truS_list, truS_tup, truS_ali, srcOf_list, srcOf_tup, srcOf_ali, Ab.got_some, gZ_nil, gC_cons, gT_tup, onlyDat_dat, notAli_dat, notAli_own, getO_some, fin_none, fin_some, finO_own, callA_nil, callA_dat, callA_ali, argS_none, argS_some, rt_ad, nx_ad, isN_none, isN_tup, notN_none, notN_tup, aNx, aRet, aIf, aSet, aAug, aDrop, aNever, aC, aBin, aBinR, aUn, aTst, aChain, aNot, aAnd, aOr, aIfE, aAndV, aOrV, aNotV, aNil, aCons, aTup, aLst, aCall1, aCallD, aIx, aApp, aExt, aSetIx, aTru, sLen, sAny, sAll, sSum, sList, sTuple, fI, fC, fB, aSeqI, aRng1, aFor, aFrz, gN, aUnp, aLc, aYes, aCall, aRep, aRgT, turn, wipeA, br_true, br_false, List.map_nil, List.map_cons, List.nil_append, List.cons_append, List.replicate, List.getElem?_cons_zero, List.getElem?_cons_succ, List.set_cons_zero, List.set_cons_succ, List.length_cons, List.length_nil, sIn_int, sNotIn_int, sEq_int, sNe_int, sEq_bool, sNe_bool, sEq_str]
        refine sNe_of (faith_tup (faith_tup faith_int)) (n := 2) (fun a => depth_tup (fun b => Nat.le_of_eq (depth_tI b)) a) (by decide) ?_
        simp only [decide_true, Bool.not_true, aName_eq, nm_dat, nm_own, dd_dat, dd_own, bb_bool, arg_dat, arg_own, arg_ali, das_nil, das_dat, cont_list, cont_tup, cont_own, cont_ali, contS_own, ownL_own, ownO_own, stor_dat, stor_own, iD_int, ii_int, i1_int, sAddU_int, sAddU_tup, truS_none, truS_bool, truS_int, truS_list, truS_tup, truS_ali, srcOf_list, srcOf_tup, srcOf_ali, Ab.got_some, gZ_nil, gC_cons, gT_tup, onlyDat_dat, notAli_dat, notAli_own, getO_some, fin_none, fin_some, finO_own, callA_nil, callA_dat, callA_ali, argS_none, argS_some, rt_ad, nx_ad, isN_none, isN_tup, notN_none, notN_tup, aNx, aRet, aIf, aSet, aAug, aDrop, aNever, aC, aBin, aBinR, aUn, aTst, aChain, aNot, aAnd, aOr, aIfE, aAndV, aOrV, aNotV, aNil, aCons, aTup, aLst, aCall1, aCallD, aIx, aApp, aExt, aSetIx, aTru, sLen, sAny, sAll, sSum, sList, sTuple, fI, fC, fB, aSeqI, aRng1, aFor, aFrz, gN, aUnp, aLc, aYes, aCall, aRep, aRgT, turn, wipeA, br_true, br_false, List.map_nil, List.map_cons, List.nil_append, List.cons_append, List.replicate, List.getElem?_cons_zero, List.getElem?_cons_succ, List.set_cons_zero, List.set_cons_succ, List.length_cons, List.length_nil, sIn_int, sNotIn_int, sEq_int, sNe_int, sEq_bool, sNe_bool, sEq_str]
        exact kn2 _ rfl
      rintro ρ rfl
      refine cut (fun ρ => ρ = [some (.dat (.list (ns.map PyData.int))), some (.own none (.lst (tape ns t l s))), some (.dat (.int p)), some (.dat (eR W)), x4, some (.dat (eR Q)), some (.dat (.bool (meetB W Q))), none, none, some (.dat (eStale W Q)), some (.own none (.lst (run.map eRun))), some (.dat (.tuple ((playF p run).map eP))), none, none, some (.dat (eClash W Q)), some (.dat (.bool (meetB W W))), some (.dat (eR (dualF p W))), some (.dat (tI least)), none, some (.dat (tI ws)), some (.dat (.int ws.sum)), some (.dat (.int need)), some (.dat (eR (majF ws need))), some (.dat (eR (majF ws (ws.sum + 1 - need)))), none, none, none]) (fun Kn2 kn2 => ?_) ?_
      · simp only [aName_eq, nm_dat, nm_own, dd_dat, dd_own, bb_bool, arg_dat, arg_own, arg_ali, das_nil, das_dat, cont_list, cont_tup, cont_own, cont_ali, contS_own, ownL_own, ownO_own, stor_dat, stor_own, iD_int, ii_int, i1_int, sAddU_int, sAddU_tup, truS_none, truS_bool, truS_int, truS_list, truS_tup, truS_ali, srcOf_list, srcOf_tup, srcOf_ali, Ab.got_some, gZ_nil, gC_cons, gT_tup, onlyDat_dat, notAli_dat, notAli_own, getO_some, fin_none, fin_some, finO_own, callA_nil, callA_dat, callA_ali, argS_none, argS_some, rt_ad, nx_ad, isN_none, isN_tup, notN_none, notN_tup, aNx, aRet, aIf, aSet, aAug, aDrop, aNever, aC, aBin, aBinR, aUn, aTst, aChain, aNot, aAnd, aOr, aIfE, aAndV, aOrV, aNotV, aNil, aCons, aTup, aLst, aCall1, aCallD, aIx, aApp, aExt, aSetIx, aTru, sLen, sAny, sAll, sSum, sList, sTuple, fI, fC, fB, aSeqI, aRng1, aFor, aFrz, gN, aUnp, aLc, aYes, aCall, aRep, aRgT, turn, wipeA, br_true, br_false, List.map_nil, List.map_cons, List.nil_append, List.cons_append, List.replicate, List.getElem?_cons_zero, List.getElem?_cons_succ, List.set_cons_zero, List.set_cons_succ, List.length_cons, List.length_nil, sIn_int, sNotIn_int, sEq_int, sNe_int, sEq_bool, sNe_bool, sEq_str]
        refine ⟨.inl ⟨by decide, by decide⟩, fun h2 => ?_, fun _ => kn2 _ rfl⟩
        have h2 : ws.sum < 2 * need := of_decide_eq_true h2
        refine ⟨p, majF ws need, majF ws need, rfl, rfl, hM, hM, rfl, ?_⟩
        have hmm := maj_meet ws0 hws p1 n1 n2 h2
        rcases clash_all (W := majF ws need) (R := majF ws need) with ⟨c1, c2, c3⟩ | ⟨c1, a, b, c3⟩ | ⟨c1, c2, a, b, c3⟩
        · simp only [c3, aName_eq, nm_dat, nm_own, dd_dat, dd_own, bb_bool, arg_dat, arg_own, arg_ali, das_nil, das_dat, cont_list, cont_tup, cont_own, cont_ali, contS_own, ownL_own, ownO_own, stor_dat, stor_own, iD_int, ii_int, i1_int, sAddU_int, sAddU_tup, truS_none, truS_bool, truS_int, truS_list, truS_tup, truS_ali, srcOf_list, srcOf_tup, srcOf_ali, Ab.got_some, gZ_nil, gC_cons, gT_tup, onlyDat_dat, notAli_dat, notAli_own, getO_some, fin_none, fin_some, finO_own, callA_nil, callA_dat, callA_ali, argS_none, argS_some, rt_ad, nx_ad, isN_none, isN_tup, notN_none, notN_tup, aNx, aRet, aIf, aSet, aAug, aDrop, aNever, aC, aBin, aBinR, aUn, aTst, aChain, aNot, aAnd, aOr, aIfE, aAndV, aOrV, aNotV, aNil, aCons, aTup, aLst, aCall1, aCallD, aIx, aApp, aExt, aSetIx, aTru, sLen, sAny, sAll, sSum, sList, sTuple, fI, fC, fB, aSeqI, aRng1, aFor, aFrz, gN, aUnp, aLc, aYes, aCall, aRep, aRgT, turn, wipeA, br_true, br_false, List.map_nil, List.map_cons, List.nil_append, List.cons_append, List.replicate, List.getElem?_cons_zero, List.getElem?_cons_succ, List.set_cons_zero, List.set_cons_succ, List.length_cons, List.length_nil, sIn_int, sNotIn_int, sEq_int, sNe_int, sEq_bool, sNe_bool, sEq_str]
          exact kn2 _ rfl
        · rw [hmm] at c1
          cases c1
        · rw [hmm] at c2
          cases c2
      rintro ρ rfl
      simp only [aName_eq, nm_dat, nm_own, dd_dat, dd_own, bb_bool, arg_dat, arg_own, arg_ali, das_nil, das_dat, cont_list, cont_tup, cont_own, cont_ali, contS_own, ownL_own, ownO_own, stor_dat, stor_own, iD_int, ii_int, i1_int, sAddU_int, sAddU_tup, truS_none, truS_bool, truS_int, truS_list, truS_tup, truS_ali, srcOf_list, srcOf_tup, srcOf_ali, Ab.got_some, gZ_nil, gC_cons, gT_tup, onlyDat_dat, notAli_dat, notAli_own, getO_some, fin_none, fin_some, finO_own, callA_nil, callA_dat, callA_ali, argS_none, argS_some, rt_ad, nx_ad, isN_none, isN_tup, notN_none, notN_tup, aNx, aRet, aIf, aSet, aAug, aDrop, aNever, aC, aBin, aBinR, aUn, aTst, aChain, aNot, aAnd, aOr, aIfE, aAndV, aOrV, aNotV, aNil, aCons, aTup, aLst, aCall1, aCallD, aIx, aApp, aExt, aSetIx, aTru, sLen, sAny, sAll, sSum, sList, sTuple, fI, fC, fB, aSeqI, aRng1, aFor, aFrz, gN, aUnp, aLc, aYes, aCall, aRep, aRgT, turn, wipeA, br_true, br_false, List.map_nil, List.map_cons, List.nil_append, List.cons_append, List.replicate, List.getElem?_cons_zero, List.getElem?_cons_succ, List.set_cons_zero, List.set_cons_succ, List.length_cons, List.length_nil, sIn_int, sNotIn_int, sEq_int, sNe_int, sEq_bool, sNe_bool, sEq_str]
      refine ⟨p, majF ws need, majF ws (ws.sum + 1 - need), rfl, rfl, hM, hM', rfl, ?_⟩
      rw [stale_none (maj_meet2 ws0 hws p1 n1 n2)]
      simp only [aName_eq, nm_dat, nm_own, dd_dat, dd_own, bb_bool, arg_dat, arg_own, arg_ali, das_nil, das_dat, cont_list, cont_tup, cont_own, cont_ali, contS_own, ownL_own, ownO_own, stor_dat, stor_own, iD_int, ii_int, i1_int, sAddU_int, sAddU_tup, truS_none, truS_bool, truS_int, truS_list, truS_tup, truS_ali, srcOf_list, srcOf_tup, srcOf_ali, Ab.got_some, gZ_nil, gC_cons, gT_tup, onlyDat_dat, notAli_dat, notAli_own, getO_some, fin_none, fin_some, finO_own, callA_nil, callA_dat, callA_ali, argS_none, argS_some, rt_ad, nx_ad, isN_none, isN_tup, notN_none, notN_tup, aNx, aRet, aIf, aSet, aAug, aDrop, aNever, aC, aBin, aBinR, aUn, aTst, aChain, aNot, aAnd, aOr, aIfE, aAndV, aOrV, aNotV, aNil, aCons, aTup, aLst, aCall1, aCallD, aIx, aApp, aExt, aSetIx, aTru, sLen, sAny, sAll, sSum, sList, sTuple, fI, fC, fB, aSeqI, aRng1, aFor, aFrz, gN, aUnp, aLc, aYes, aCall, aRep, aRgT, turn, wipeA, br_true, br_false, List.map_nil, List.map_cons, List.nil_append, List.cons_append, List.replicate, List.getElem?_cons_zero, List.getElem?_cons_succ, List.set_cons_zero, List.set_cons_succ, List.length_cons, List.length_nil, sIn_int, sNotIn_int, sEq_int, sNe_int, sEq_bool, sNe_bool, sEq_str]
      exact kn _ ⟨t, l, s, _, _, _, hT, rfl⟩
    rintro ρ ⟨t, l, s, x21, x22, x23, hT, rfl⟩
    refine cut (fun ρ => ∃ (cs : List Int) (t l s : Int), cs.length = W.length ∧ (∀ x ∈ cs, 0 ≤ x ∧ x < 6) ∧ OkTape ns t l s ∧ ρ = [some (.dat (.list (ns.map PyData.int))), some (.own none (.lst (tape ns t l s))), some (.dat (.int p)), some (.dat (eR W)), x4, some (.dat (eR Q)), some (.dat (.bool (meetB W Q))), none, none, some (.dat (eStale W Q)), some (.own none (.lst (run.map eRun))), some (.dat (.tuple ((playF p run).map eP))), none, none, some (.dat (eClash W Q)), some (.dat (.bool (meetB W W))), some (.dat (eR (dualF p W))), some (.dat (tI least)), none, some (.dat (tI ws)), some (.dat (.int ws.sum)), x21, x22, x23, some (.dat (tI cs)), none, none]) (fun Kn kn => ?_) ?_
    · simp only [eR, aName_eq, nm_dat, nm_own, dd_dat, dd_own, bb_bool, arg_dat, arg_own, arg_ali, das_nil, das_dat, cont_list, cont_tup, cont_own, cont_ali, contS_own, ownL_own, ownO_own, stor_dat, stor_own, iD_int, ii_int, i1_int, sAddU_int, sAddU_tup, truS_none, truS_bool, truS_int, truS_list, truS_tup, truS_ali, srcOf_list, srcOf_tup, srcOf_ali, Ab.got_some, gZ_nil, gC_cons, gT_tup, onlyDat_dat, notAli_dat, notAli_own, getO_some, fin_none, fin_some, finO_own, callA_nil, callA_dat, callA_ali, argS_none, argS_some, rt_ad, nx_ad, isN_none, isN_tup, notN_none, notN_tup, aNx, aRet, aIf, aSet, aAug, aDrop, aNever, aC, aBin, aBinR, aUn, aTst, aChain, aNot, aAnd, aOr, aIfE, aAndV, aOrV, aNotV, aNil, aCons, aTup, aLst, aCall1, aCallD, aIx, aApp, aExt, aSetIx, aTru, sLen, sAny, sAll, sSum, sList, sTuple, fI, fC, fB, aSeqI, aRng1, aFor, aFrz, gN, aUnp, aLc, aYes, aCall, aRep, aRgT, turn, wipeA, br_true, br_false, List.map_nil, List.map_cons, List.nil_append, List.cons_append, List.replicate, List.getElem?_cons_zero, List.getElem?_cons_succ, List.set_cons_zero, List.set_cons_succ, List.length_cons, List.length_nil, sIn_int, sNotIn_int, sEq_int, sNe_int, sEq_bool, sNe_bool, sEq_str]
      refine lc_inv (enc := tI) (fun pre acc ρ => ∃ (zs : List Int) (t l s : Int), zs.length = pre.length ∧ (∀ x ∈ zs, 0 ≤ x ∧ x < 6) ∧ acc = zs.map PyData.int ∧ OkTape ns t l s ∧ ρ = [some (.dat (.list (ns.map PyData.int))), some (.own none (.lst (tape ns t l s))), some (.dat (.int p)), some (.dat (eR W)), x4, some (.dat (eR Q)), some (.dat (.bool (meetB W Q))), none, none, some (.dat (eStale W Q)), some (.own none (.lst (run.map eRun))), some (.dat (.tuple ((playF p run).map eP))), none, none, some (.dat (eClash W Q)), some (.dat (.bool (meetB W W))), some (.dat (eR (dualF p W))), some (.dat (tI least)), none, some (.dat (tI ws)), some (.dat (.int ws.sum)), x21, x22, x23, none, none, none])
        ⟨[], t, l, s, rfl, fun _ z => (nomatch z), rfl, hT, rfl⟩ (small_len (by omega)) (fun pre acc ρ hI => ?_) ?_ ?_
      · obtain ⟨rows, t, l, s, _, _, _, _, rfl⟩ := hI
        exact ⟨trivial, by simp [Ab.freeOf]⟩
      · rintro pre x post e acc ρ ⟨zs, t, l, s, g1, g2, g3, g4, rfl⟩ Ka Ks ka ks
        simp only [aName_eq, nm_dat, nm_own, dd_dat, dd_own, bb_bool, arg_dat, arg_own, arg_ali, das_nil, das_dat, cont_list, cont_tup, cont_own, cont_ali, contS_own, ownL_own, ownO_own, stor_dat, stor_own, iD_int, ii_int, i1_int, sAddU_int, sAddU_tup, truS_none, truS_bool, truS_int, truS_list, truS_tup, truS_ali, srcOf_list, srcOf_tup, srcOf_ali, Ab.got_some, gZ_nil, gC_cons, gT_tup, onlyDat_dat, notAli_dat, notAli_own, getO_some, fin_none, fin_some, finO_own, callA_nil, callA_dat, callA_ali, argS_none, argS_some, rt_ad, nx_ad, isN_none, isN_tup, notN_none, notN_tup, aNx, aRet, aIf, aSet, aAug, aDrop, aNever, aC, aBin, aBinR, aUn, aTst, aChain, aNot, aAnd, aOr, aIfE, aAndV, aOrV, aNotV, aNil, aCons, aTup, aLst, aCall1, aCallD, aIx, aApp, aExt, aSetIx, aTru, sLen, sAny, sAll, sSum, sList, sTuple, fI, fC, fB, aSeqI, aRng1, aFor, aFrz, gN, aUnp, aLc, aYes, aCall, aRep, aRgT, turn, wipeA, br_true, br_false, List.map_nil, List.map_cons, List.nil_append, List.cons_append, List.replicate, List.getElem?_cons_zero, List.getElem?_cons_succ, List.set_cons_zero, List.set_cons_succ, List.length_cons, List.length_nil, sIn_int, sNotIn_int, sEq_int, sNe_int, sEq_bool, sNe_bool, sEq_str]
        refine ⟨ns, t, l, s, 6, rfl, rfl, g4, by decide, by decide, fun r t' l' s' r0 r1 hT' => ?_⟩
        simp only [aName_eq, nm_dat, nm_own, dd_dat, dd_own, bb_bool, arg_dat, arg_own, arg_ali, das_nil, das_dat, cont_list, cont_tup, cont_own, cont_ali, contS_own, ownL_own, ownO_own, stor_dat, stor_own, iD_int, ii_int, i1_int, sAddU_int, sAddU_tup, truS_none, truS_bool, truS_int, truS_list, truS_tup, truS_ali, srcOf_list, srcOf_tup, srcOf_ali, Ab.got_some, gZ_nil, gC_cons, gT_tup, onlyDat_dat, notAli_dat, notAli_own, getO_some, fin_none, fin_some, finO_own, callA_nil, callA_dat, callA_ali, argS_none, argS_some, rt_ad, nx_ad, isN_none, isN_tup, notN_none, notN_tup, aNx, aRet, aIf, aSet, aAug, aDrop, aNever, aC, aBin, aBinR, aUn, aTst, aChain, aNot, aAnd, aOr, aIfE, aAndV, aOrV, aNotV, aNil, aCons, aTup, aLst, aCall1, aCallD, aIx, aApp, aExt, aSetIx, aTru, sLen, sAny, sAll, sSum, sList, sTuple, fI, fC, fB, aSeqI, aRng1, aFor, aFrz, gN, aUnp, aLc, aYes, aCall, aRep, aRgT, turn, wipeA, br_true, br_false, List.map_nil, List.map_cons, List.nil_append, List.cons_append, List.replicate, List.getElem?_cons_zero, List.getElem?_cons_succ, List.set_cons_zero, List.set_cons_succ, List.length_cons, List.length_nil, sIn_int, sNotIn_int, sEq_int, sNe_int, sEq_bool, sNe_bool, sEq_str]
        refine ka _ _ ⟨zs ++ [r], t', l', s', by simp [g1], fun q hq => ?_, by rw [g3, List.map_append]; rfl, hT', rfl⟩
        rcases List.mem_append.mp hq with hq | hq
        · exact g2 q hq
        · rw [List.mem_singleton.mp hq]
          exact ⟨r0, r1⟩
      · rintro acc ρ ⟨zs, t, l, s, g1, g2, rfl, g4, rfl⟩
        simp only [aName_eq, nm_dat, nm_own, dd_dat, dd_own, bb_bool, arg_dat, arg_own, arg_ali, das_nil, das_dat, cont_list, cont_tup, cont_own, cont_ali, contS_own, ownL_own, ownO_own, stor_dat, stor_own, iD_int, ii_int, i1_int, sAddU_int, sAddU_tup, truS_none, truS_bool, truS_int, truS_list, truS_tup, truS_ali, srcOf_list, srcOf_tup, srcOf_ali, Ab.got_some, gZ_nil, gC_cons, gT_tup, onlyDat_dat, notAli_dat, notAli_own, getO_some, fin_none, fin_some, finO_own, callA_nil, callA_dat, callA_ali, argS_none, argS_some, rt_ad, nx_ad, isN_none, isN_tup, notN_none, notN_tup, aNx, aRet, aIf, aSet, aAug, aDrop, aNever, aC, aBin, aBinR, aUn, aTst, aChain, aNot, aAnd, aOr, aIfE, aAndV, aOrV, aNotV, aNil, aCons, aTup, aLst, aCall1, aCallD, aIx, aApp, aExt, aSetIx, aTru, sLen, sAny, sAll, sSum, sList, sTuple, fI, fC, fB, aSeqI, aRng1, aFor, aFrz, gN, aUnp, aLc, aYes, aCall, aRep, aRgT, turn, wipeA, br_true, br_false, List.map_nil, List.map_cons, List.nil_append, List.cons_append, List.replicate, List.getElem?_cons_zero, List.getElem?_cons_succ, List.set_cons_zero, List.set_cons_succ, List.length_cons, List.length_nil, sIn_int, sNotIn_int, sEq_int, sNe_int, sEq_bool, sNe_bool, sEq_str]
        exact kn _ ⟨zs, t, l, s, by omega, g2, g4, rfl⟩
    rintro ρ ⟨cs, t, l, s, hcl, hcs, hT, rfl⟩
    have hc0 : ∀ x ∈ cs, 0 ≤ x := fun x hx => (hcs x hx).1
    refine cut1 [some (.dat (.list (ns.map PyData.int))), some (.own none (.lst (tape ns t l s))), some (.dat (.int p)), some (.dat (eR W)), x4, some (.dat (eR Q)), some (.dat (.bool (meetB W Q))), none, none, some (.dat (eStale W Q)), some (.own none (.lst (run.map eRun))), some (.dat (.tuple ((playF p run).map eP))), none, none, some (.dat (eClash W Q)), some (.dat (.bool (meetB W W))), some (.dat (eR (dualF p W))), some (.dat (tI least)), none, some (.dat (tI ws)), some (.dat (.int ws.sum)), x21, x22, x23, some (.dat (tI cs)), some (.dat (tI (loadsF p W cs))), some (.dat (.int ((loadsF p W cs).foldl max 0)))] (fun Kn kn => ?_) ?_
    · simp only [aName_eq, nm_dat, nm_own, dd_dat, dd_own, bb_bool, arg_dat, arg_own, arg_ali, das_nil, das_dat, cont_list, cont_tup, cont_own, cont_ali, contS_own, ownL_own, ownO_own, stor_dat, stor_own, iD_int, ii_int, i1_int, sAddU_int, sAddU_tup, truS_none, truS_bool, truS_int, truS_list, truS_tup, truS_ali, srcOf_list, srcOf_tup, srcOf_ali, Ab.got_some, gZ_nil, gC_cons, gT_tup, onlyDat_dat, notAli_dat, notAli_own, getO_some, fin_none, fin_some, finO_own, callA_nil, callA_dat, callA_ali, argS_none, argS_some, rt_ad, nx_ad, isN_none, isN_tup, notN_none, notN_tup, aNx, aRet, aIf, aSet, aAug, aDrop, aNever, aC, aBin, aBinR, aUn, aTst, aChain, aNot, aAnd, aOr, aIfE, aAndV, aOrV, aNotV, aNil, aCons, aTup, aLst, aCall1, aCallD, aIx, aApp, aExt, aSetIx, aTru, sLen, sAny, sAll, sSum, sList, sTuple, fI, fC, fB, aSeqI, aRng1, aFor, aFrz, gN, aUnp, aLc, aYes, aCall, aRep, aRgT, turn, wipeA, br_true, br_false, List.map_nil, List.map_cons, List.nil_append, List.cons_append, List.replicate, List.getElem?_cons_zero, List.getElem?_cons_succ, List.set_cons_zero, List.set_cons_succ, List.length_cons, List.length_nil, sIn_int, sNotIn_int, sEq_int, sNe_int, sEq_bool, sNe_bool, sEq_str]
      refine ⟨p, W, cs, rfl, rfl, hW, hcl, hc0, rfl, ?_⟩
      simp only [aName_eq, nm_dat, nm_own, dd_dat, dd_own, bb_bool, arg_dat, arg_own, arg_ali, das_nil, das_dat, cont_list, cont_tup, cont_own, cont_ali, contS_own, ownL_own, ownO_own, stor_dat, stor_own, iD_int, ii_int, i1_int, sAddU_int, sAddU_tup, truS_none, truS_bool, truS_int, truS_list, truS_tup, truS_ali, srcOf_list, srcOf_tup, srcOf_ali, Ab.got_some, gZ_nil, gC_cons, gT_tup, onlyDat_dat, notAli_dat, notAli_own, getO_some, fin_none, fin_some, finO_own, callA_nil, callA_dat, callA_ali, argS_none, argS_some, rt_ad, nx_ad, isN_none, isN_tup, notN_none, notN_tup, aNx, aRet, aIf, aSet, aAug, aDrop, aNever, aC, aBin, aBinR, aUn, aTst, aChain, aNot, aAnd, aOr, aIfE, aAndV, aOrV, aNotV, aNil, aCons, aTup, aLst, aCall1, aCallD, aIx, aApp, aExt, aSetIx, aTru, sLen, sAny, sAll, sSum, sList, sTuple, fI, fC, fB, aSeqI, aRng1, aFor, aFrz, gN, aUnp, aLc, aYes, aCall, aRep, aRgT, turn, wipeA, br_true, br_false, List.map_nil, List.map_cons, List.nil_append, List.cons_append, List.replicate, List.getElem?_cons_zero, List.getElem?_cons_succ, List.set_cons_zero, List.set_cons_succ, List.length_cons, List.length_nil, sIn_int, sNotIn_int, sEq_int, sNe_int, sEq_bool, sNe_bool, sEq_str]
      exact ⟨trivial, kn⟩
    refine cut1 [some (.dat (.list (ns.map PyData.int))), some (.own none (.lst (tape ns t l s))), some (.dat (.int p)), some (.dat (eR W)), x4, some (.dat (eR Q)), some (.dat (.bool (meetB W Q))), none, none, some (.dat (eStale W Q)), some (.own none (.lst (run.map eRun))), some (.dat (.tuple ((playF p run).map eP))), none, none, some (.dat (eClash W Q)), some (.dat (.bool (meetB W W))), some (.dat (eR (dualF p W))), some (.dat (tI least)), none, some (.dat (tI ws)), some (.dat (.int ws.sum)), x21, x22, x23, some (.dat (tI cs)), some (.dat (tI (loadsF p W cs))), some (.dat (.int ((loadsF p W cs).foldl max 0)))] (fun Kn kn => ?_) ?_
    · simp only [tI, intsD_map, eR, List.length_map, aName_eq, nm_dat, nm_own, dd_dat, dd_own, bb_bool, arg_dat, arg_own, arg_ali, das_nil, das_dat, cont_list, cont_tup, cont_own, cont_ali, contS_own, ownL_own, ownO_own, stor_dat, stor_own, iD_int, ii_int, i1_int, sAddU_int, sAddU_tup, truS_none, truS_bool, truS_int, truS_list, truS_tup, truS_ali, srcOf_list, srcOf_tup, srcOf_ali, Ab.got_some, gZ_nil, gC_cons, gT_tup, onlyDat_dat, notAli_dat, notAli_own, getO_some, fin_none, fin_some, finO_own, callA_nil, callA_dat, callA_ali, argS_none, argS_some, rt_ad, nx_ad, isN_none, isN_tup, notN_none, notN_tup, aNx, aRet, aIf, aSet, aAug, aDrop, aNever, aC, aBin, aBinR, aUn, aTst, aChain, aNot, aAnd, aOr, aIfE, aAndV, aOrV, aNotV, aNil, aCons, aTup, aLst, aCall1, aCallD, aIx, aApp, aExt, aSetIx, aTru, sLen, sAny, sAll, sSum, sList, sTuple, fI, fC, fB, aSeqI, aRng1, aFor, aFrz, gN, aUnp, aLc, aYes, aCall, aRep, aRgT, turn, wipeA, br_true, br_false, List.map_nil, List.map_cons, List.nil_append, List.cons_append, List.replicate, List.getElem?_cons_zero, List.getElem?_cons_succ, List.set_cons_zero, List.set_cons_succ, List.length_cons, List.length_nil, sIn_int, sNotIn_int, sEq_int, sNe_int, sEq_bool, sNe_bool, sEq_str]
      refine ⟨by omega, by omega, ?_⟩
      rw [rangeD0]
      refine lc_map (enc := fun (q : Nat) => PyData.int (q : Int)) (fun k => .int (cs.getD k 0 * ((W.getD k []).length : Int))) trivial ⟨n4, by simp, trivial⟩ (small_len (by simp; omega)) (fun k hk Ka Ks ka => ?_) ?_
      · have hk : k < W.length := by
          have := List.mem_range.mp hk
          omega
        have e3 : W.getD k [] = W[k] := by rw [List.getD_eq_getElem?_getD, List.getElem?_eq_getElem hk]; rfl
        rw [e3] at ka
        have hck := hcs _ (getD_mem (h := cs) (k := k) (by omega))
        simp only [aName_eq, nm_dat, nm_own, dd_dat, dd_own, bb_bool, arg_dat, arg_own, arg_ali, das_nil, das_dat, cont_list, cont_tup, cont_own, cont_ali, contS_own, ownL_own, ownO_own, stor_dat, stor_own, iD_int, ii_int, i1_int, sAddU_int, sAddU_tup, truS_none, truS_bool, truS_int, truS_list, truS_tup, truS_ali, srcOf_list, srcOf_tup, srcOf_ali, Ab.got_some, gZ_nil, gC_cons, gT_tup, onlyDat_dat, notAli_dat, notAli_own, getO_some, fin_none, fin_some, finO_own, callA_nil, callA_dat, callA_ali, argS_none, argS_some, rt_ad, nx_ad, isN_none, isN_tup, notN_none, notN_tup, aNx, aRet, aIf, aSet, aAug, aDrop, aNever, aC, aBin, aBinR, aUn, aTst, aChain, aNot, aAnd, aOr, aIfE, aAndV, aOrV, aNotV, aNil, aCons, aTup, aLst, aCall1, aCallD, aIx, aApp, aExt, aSetIx, aTru, sLen, sAny, sAll, sSum, sList, sTuple, fI, fC, fB, aSeqI, aRng1, aFor, aFrz, gN, aUnp, aLc, aYes, aCall, aRep, aRgT, turn, wipeA, br_true, br_false, List.map_nil, List.map_cons, List.nil_append, List.cons_append, List.replicate, List.getElem?_cons_zero, List.getElem?_cons_succ, List.set_cons_zero, List.set_cons_succ, List.length_cons, List.length_nil, sIn_int, sNotIn_int, sEq_int, sNe_int, sEq_bool, sNe_bool, sEq_str]
        rw [atI_ints (by omega), atI_map tI hk]
        simp only [tI, List.length_map, aName_eq, nm_dat, nm_own, dd_dat, dd_own, bb_bool, arg_dat, arg_own, arg_ali, das_nil, das_dat, cont_list, cont_tup, cont_own, cont_ali, contS_own, ownL_own, ownO_own, stor_dat, stor_own, iD_int, ii_int, i1_int, sAddU_int, sAddU_tup, truS_none, truS_bool, truS_int, truS_list, truS_tup, truS_ali, srcOf_list, srcOf_tup, srcOf_ali, Ab.got_some, gZ_nil, gC_cons, gT_tup, onlyDat_dat, notAli_dat, notAli_own, getO_some, fin_none, fin_some, finO_own, callA_nil, callA_dat, callA_ali, argS_none, argS_some, rt_ad, nx_ad, isN_none, isN_tup, notN_none, notN_tup, aNx, aRet, aIf, aSet, aAug, aDrop, aNever, aC, aBin, aBinR, aUn, aTst, aChain, aNot, aAnd, aOr, aIfE, aAndV, aOrV, aNotV, aNil, aCons, aTup, aLst, aCall1, aCallD, aIx, aApp, aExt, aSetIx, aTru, sLen, sAny, sAll, sSum, sList, sTuple, fI, fC, fB, aSeqI, aRng1, aFor, aFrz, gN, aUnp, aLc, aYes, aCall, aRep, aRgT, turn, wipeA, br_true, br_false, List.map_nil, List.map_cons, List.nil_append, List.cons_append, List.replicate, List.getElem?_cons_zero, List.getElem?_cons_succ, List.set_cons_zero, List.set_cons_succ, List.length_cons, List.length_nil, sIn_int, sNotIn_int, sEq_int, sNe_int, sEq_bool, sNe_bool, sEq_str]
        exact ⟨.inl ⟨by omega, by omega⟩, ka⟩
      · rw [show ((List.range (W.length : Int).toNat).map fun k => PyData.int (cs.getD k 0 * ((W.getD k []).length : Int))) = ((List.range W.length).map fun k => cs.getD k 0 * ((W.getD k []).length : Int)).map PyData.int by rw [List.map_map]; rfl]
        simp only [intsD_map, Ab.got_some]
        rw [← loads_sum (cs := cs) fun v hv => (hW.each v hv).set]
        have e5 : decide (p * (loadsF p W cs).foldl max 0 < (loadsF p W cs).sum) = false := by
          have := loads_most (p := p) (W := W) (cs := cs) hp0
          exact decide_eq_false (by omega)
        simp only [decide_true, Bool.not_true, aName_eq, nm_dat, nm_own, dd_dat, dd_own, bb_bool, arg_dat, arg_own, arg_ali, das_nil, das_dat, cont_list, cont_tup, cont_own, cont_ali, contS_own, ownL_own, ownO_own, stor_dat, stor_own, iD_int, ii_int, i1_int, sAddU_int, sAddU_tup, truS_none, truS_bool, truS_int, truS_list, truS_tup, truS_ali, srcOf_list, srcOf_tup, srcOf_ali, Ab.got_some, gZ_nil, gC_cons, gT_tup, onlyDat_dat, notAli_dat, notAli_own, getO_some, fin_none, fin_some, finO_own, callA_nil, callA_dat, callA_ali, argS_none, argS_some, rt_ad, nx_ad, isN_none, isN_tup, notN_none, notN_tup, aNx, aRet, aIf, aSet, aAug, aDrop, aNever, aC, aBin, aBinR, aUn, aTst, aChain, aNot, aAnd, aOr, aIfE, aAndV, aOrV, aNotV, aNil, aCons, aTup, aLst, aCall1, aCallD, aIx, aApp, aExt, aSetIx, aTru, sLen, sAny, sAll, sSum, sList, sTuple, fI, fC, fB, aSeqI, aRng1, aFor, aFrz, gN, aUnp, aLc, aYes, aCall, aRep, aRgT, turn, wipeA, br_true, br_false, List.map_nil, List.map_cons, List.nil_append, List.cons_append, List.replicate, List.getElem?_cons_zero, List.getElem?_cons_succ, List.set_cons_zero, List.set_cons_succ, List.length_cons, List.length_nil, sIn_int, sNotIn_int, sEq_int, sNe_int, sEq_bool, sNe_bool, sEq_str]
        refine sMax_nonneg (loads_ne p1) (loads_nn hc0) ?_
        simp only [decide_true, Bool.not_true, intsD_map, e5, aName_eq, nm_dat, nm_own, dd_dat, dd_own, bb_bool, arg_dat, arg_own, arg_ali, das_nil, das_dat, cont_list, cont_tup, cont_own, cont_ali, contS_own, ownL_own, ownO_own, stor_dat, stor_own, iD_int, ii_int, i1_int, sAddU_int, sAddU_tup, truS_none, truS_bool, truS_int, truS_list, truS_tup, truS_ali, srcOf_list, srcOf_tup, srcOf_ali, Ab.got_some, gZ_nil, gC_cons, gT_tup, onlyDat_dat, notAli_dat, notAli_own, getO_some, fin_none, fin_some, finO_own, callA_nil, callA_dat, callA_ali, argS_none, argS_some, rt_ad, nx_ad, isN_none, isN_tup, notN_none, notN_tup, aNx, aRet, aIf, aSet, aAug, aDrop, aNever, aC, aBin, aBinR, aUn, aTst, aChain, aNot, aAnd, aOr, aIfE, aAndV, aOrV, aNotV, aNil, aCons, aTup, aLst, aCall1, aCallD, aIx, aApp, aExt, aSetIx, aTru, sLen, sAny, sAll, sSum, sList, sTuple, fI, fC, fB, aSeqI, aRng1, aFor, aFrz, gN, aUnp, aLc, aYes, aCall, aRep, aRgT, turn, wipeA, br_true, br_false, List.map_nil, List.map_cons, List.nil_append, List.cons_append, List.replicate, List.getElem?_cons_zero, List.getElem?_cons_succ, List.set_cons_zero, List.set_cons_succ, List.length_cons, List.length_nil, sIn_int, sNotIn_int, sEq_int, sNe_int, sEq_bool, sNe_bool, sEq_str]
        exact ⟨.inl ⟨by omega, by omega⟩, kn⟩
    refine cut1 [some (.dat (.list (ns.map PyData.int))), some (.own none (.lst (tape ns t l s))), some (.dat (.int p)), some (.dat (eR W)), x4, some (.dat (eR Q)), some (.dat (.bool (meetB W Q))), none, none, some (.dat (eStale W Q)), some (.own none (.lst (run.map eRun))), some (.dat (.tuple ((playF p run).map eP))), none, none, some (.dat (eClash W Q)), some (.dat (.bool (meetB W W))), some (.dat (eR (dualF p W))), some (.dat (tI least)), none, some (.dat (tI ws)), some (.dat (.int ws.sum)), x21, x22, x23, some (.dat (tI cs)), some (.dat (tI (loadsF p W cs))), some (.dat (.int ((loadsF p W cs).foldl max 0)))] (fun Kn kn => ?_) ?_
    · have e5 : decide ((loadsF p W cs).foldl max 0 * (W.length : Int) * p < cs.sum) = false := by
        have := loads_most2 hW hcl hc0
        exact decide_eq_false (by omega)
      simp only [tI, intsD_map, eR, List.length_map, e5, aName_eq, nm_dat, nm_own, dd_dat, dd_own, bb_bool, arg_dat, arg_own, arg_ali, das_nil, das_dat, cont_list, cont_tup, cont_own, cont_ali, contS_own, ownL_own, ownO_own, stor_dat, stor_own, iD_int, ii_int, i1_int, sAddU_int, sAddU_tup, truS_none, truS_bool, truS_int, truS_list, truS_tup, truS_ali, srcOf_list, srcOf_tup, srcOf_ali, Ab.got_some, gZ_nil, gC_cons, gT_tup, onlyDat_dat, notAli_dat, notAli_own, getO_some, fin_none, fin_some, finO_own, callA_nil, callA_dat, callA_ali, argS_none, argS_some, rt_ad, nx_ad, isN_none, isN_tup, notN_none, notN_tup, aNx, aRet, aIf, aSet, aAug, aDrop, aNever, aC, aBin, aBinR, aUn, aTst, aChain, aNot, aAnd, aOr, aIfE, aAndV, aOrV, aNotV, aNil, aCons, aTup, aLst, aCall1, aCallD, aIx, aApp, aExt, aSetIx, aTru, sLen, sAny, sAll, sSum, sList, sTuple, fI, fC, fB, aSeqI, aRng1, aFor, aFrz, gN, aUnp, aLc, aYes, aCall, aRep, aRgT, turn, wipeA, br_true, br_false, List.map_nil, List.map_cons, List.nil_append, List.cons_append, List.replicate, List.getElem?_cons_zero, List.getElem?_cons_succ, List.set_cons_zero, List.set_cons_succ, List.length_cons, List.length_nil, sIn_int, sNotIn_int, sEq_int, sNe_int, sEq_bool, sNe_bool, sEq_str]
      exact ⟨.inr ⟨by omega, by omega⟩, .inr ⟨by omega, by omega⟩, kn⟩
    simp only [tI, aName_eq, nm_dat, nm_own, dd_dat, dd_own, bb_bool, arg_dat, arg_own, arg_ali, das_nil, das_dat, cont_list, cont_tup, cont_own, cont_ali, contS_own, ownL_own, ownO_own, stor_dat, stor_own, iD_int, ii_int, i1_int, sAddU_int, sAddU_tup, truS_none, truS_bool, truS_int, truS_list, truS_tup, truS_ali, srcOf_list, srcOf_tup, srcOf_ali, Ab.got_some, gZ_nil, gC_cons, gT_tup, onlyDat_dat, notAli_dat, notAli_own, getO_some, fin_none, fin_some, finO_own, callA_nil, callA_dat, callA_ali, argS_none, argS_some, rt_ad, nx_ad, isN_none, isN_tup, notN_none, notN_tup, aNx, aRet, aIf, aSet, aAug, aDrop, aNever, aC, aBin, aBinR, aUn, aTst, aChain, aNot, aAnd, aOr, aIfE, aAndV, aOrV, aNotV, aNil, aCons, aTup, aLst, aCall1, aCallD, aIx, aApp, aExt, aSetIx, aTru, sLen, sAny, sAll, sSum, sList, sTuple, fI, fC, fB, aSeqI, aRng1, aFor, aFrz, gN, aUnp, aLc, aYes, aCall, aRep, aRgT, turn, wipeA, br_true, br_false, List.map_nil, List.map_cons, List.nil_append, List.cons_append, List.replicate, List.getElem?_cons_zero, List.getElem?_cons_succ, List.set_cons_zero, List.set_cons_succ, List.length_cons, List.length_nil, sIn_int, sNotIn_int, sEq_int, sNe_int, sEq_bool, sNe_bool, sEq_str]
    refine lc_map (enc := PyData.int) (fun x => .int (2 * x)) trivial (by simp [Ab.freeOf]) (small_len (by omega)) (fun x hx Ka Ks ka => ?_) ?_
    · simp only [aName_eq, nm_dat, nm_own, dd_dat, dd_own, bb_bool, arg_dat, arg_own, arg_ali, das_nil, das_dat, cont_list, cont_tup, cont_own, cont_ali, contS_own, ownL_own, ownO_own, stor_dat, stor_own, iD_int, ii_int, i1_int, sAddU_int, sAddU_tup, truS_none, truS_bool, truS_int, truS_list, truS_tup, truS_ali, srcOf_list, srcOf_tup, srcOf_ali, Ab.got_some, gZ_nil, gC_cons, gT_tup, onlyDat_dat, notAli_dat, notAli_own, getO_some, fin_none, fin_some, finO_own, callA_nil, callA_dat, callA_ali, argS_none, argS_some, rt_ad, nx_ad, isN_none, isN_tup, notN_none, notN_tup, aNx, aRet, aIf, aSet, aAug, aDrop, aNever, aC, aBin, aBinR, aUn, aTst, aChain, aNot, aAnd, aOr, aIfE, aAndV, aOrV, aNotV, aNil, aCons, aTup, aLst, aCall1, aCallD, aIx, aApp, aExt, aSetIx, aTru, sLen, sAny, sAll, sSum, sList, sTuple, fI, fC, fB, aSeqI, aRng1, aFor, aFrz, gN, aUnp, aLc, aYes, aCall, aRep, aRgT, turn, wipeA, br_true, br_false, List.map_nil, List.map_cons, List.nil_append, List.cons_append, List.replicate, List.getElem?_cons_zero, List.getElem?_cons_succ, List.set_cons_zero, List.set_cons_succ, List.length_cons, List.length_nil, sIn_int, sNotIn_int, sEq_int, sNe_int, sEq_bool, sNe_bool, sEq_str]
      exact ⟨.inl ⟨by decide, by decide⟩, ka⟩
    · rw [show (cs.map fun x => PyData.int (2 * x)) = (cs.map fun x => 2 * x).map PyData.int by rw [List.map_map]; rfl]
      simp only [aName_eq, nm_dat, nm_own, dd_dat, dd_own, bb_bool, arg_dat, arg_own, arg_ali, das_nil, das_dat, cont_list, cont_tup, cont_own, cont_ali, contS_own, ownL_own, ownO_own, stor_dat, stor_own, iD_int, ii_int, i1_int, sAddU_int, sAddU_tup, truS_none, truS_bool, truS_int, truS_list, truS_tup, truS_ali, srcOf_list, srcOf_tup, srcOf_ali, Ab.got_some, gZ_nil, gC_cons, gT_tup, onlyDat_dat, notAli_dat, notAli_own, getO_some, fin_none, fin_some, finO_own, callA_nil, callA_dat, callA_ali, argS_none, argS_some, rt_ad, nx_ad, isN_none, isN_tup, notN_none, notN_tup, aNx, aRet, aIf, aSet, aAug, aDrop, aNever, aC, aBin, aBinR, aUn, aTst, aChain, aNot, aAnd, aOr, aIfE, aAndV, aOrV, aNotV, aNil, aCons, aTup, aLst, aCall1, aCallD, aIx, aApp, aExt, aSetIx, aTru, sLen, sAny, sAll, sSum, sList, sTuple, fI, fC, fB, aSeqI, aRng1, aFor, aFrz, gN, aUnp, aLc, aYes, aCall, aRep, aRgT, turn, wipeA, br_true, br_false, List.map_nil, List.map_cons, List.nil_append, List.cons_append, List.replicate, List.getElem?_cons_zero, List.getElem?_cons_succ, List.set_cons_zero, List.set_cons_succ, List.length_cons, List.length_nil, sIn_int, sNotIn_int, sEq_int, sNe_int, sEq_bool, sNe_bool, sEq_str]
      refine ⟨p, W, cs.map fun x => 2 * x, rfl, rfl, hW, by simp [hcl], fun y hy => ?_, rfl, ?_⟩
      · obtain ⟨x, hx, rfl⟩ := List.mem_map.mp hy
        have := hc0 x hx
        omega
      · have e6 : (loadsF p W (cs.map fun x => 2 * x)).foldl max 0 = 2 * (loadsF p W cs).foldl max 0 := by
          rw [loads_twice]
          exact max_twice _ 0
        have e7 : rangeD 0 p.toNat = (idx p).map PyData.int := by
          rw [rangeD0]
          unfold idx
          rw [List.map_map]
          rfl
        obtain ⟨s1, hs1, hs2⟩ := fatal_one p1
        have hine : idx p ≠ [] := by
          intro z
          have g := (idx_mem (p := p) (x := 0)).mpr (by omega)
          rw [z] at g
          cases g
        have hone : OkSets p [idx p] := ⟨p1, by omega, by simp, by simp, fun r hr => by
          rw [List.mem_singleton.mp hr]
          exact ⟨hine, idx_asc p, (idx_set p).rng⟩⟩
        simp only [at_1, e6, decide_true, e7, aName_eq, nm_dat, nm_own, dd_dat, dd_own, bb_bool, arg_dat, arg_own, arg_ali, das_nil, das_dat, cont_list, cont_tup, cont_own, cont_ali, contS_own, ownL_own, ownO_own, stor_dat, stor_own, iD_int, ii_int, i1_int, sAddU_int, sAddU_tup, truS_none, truS_bool, truS_int, truS_list, truS_tup, truS_ali, srcOf_list, srcOf_tup, srcOf_ali, Ab.got_some, gZ_nil, gC_cons, gT_tup, onlyDat_dat, notAli_dat, notAli_own, getO_some, fin_none, fin_some, finO_own, callA_nil, callA_dat, callA_ali, argS_none, argS_some, rt_ad, nx_ad, isN_none, isN_tup, notN_none, notN_tup, aNx, aRet, aIf, aSet, aAug, aDrop, aNever, aC, aBin, aBinR, aUn, aTst, aChain, aNot, aAnd, aOr, aIfE, aAndV, aOrV, aNotV, aNil, aCons, aTup, aLst, aCall1, aCallD, aIx, aApp, aExt, aSetIx, aTru, sLen, sAny, sAll, sSum, sList, sTuple, fI, fC, fB, aSeqI, aRng1, aFor, aFrz, gN, aUnp, aLc, aYes, aCall, aRep, aRgT, turn, wipeA, br_true, br_false, List.map_nil, List.map_cons, List.nil_append, List.cons_append, List.replicate, List.getElem?_cons_zero, List.getElem?_cons_succ, List.set_cons_zero, List.set_cons_succ, List.length_cons, List.length_nil, sIn_int, sNotIn_int, sEq_int, sNe_int, sEq_bool, sNe_bool, sEq_str]
        refine ⟨.inl ⟨by decide, by decide⟩, by omega, by omega, small_le (by decide), p, [idx p], s1, rfl, rfl, hone, hs1, rfl, ?_⟩
        have e8 : decide (((1 : Nat) : Int) - 1 = 0) = true := by decide
        simp only [hs2, e8, aName_eq, nm_dat, nm_own, dd_dat, dd_own, bb_bool, arg_dat, arg_own, arg_ali, das_nil, das_dat, cont_list, cont_tup, cont_own, cont_ali, contS_own, ownL_own, ownO_own, stor_dat, stor_own, iD_int, ii_int, i1_int, sAddU_int, sAddU_tup, truS_none, truS_bool, truS_int, truS_list, truS_tup, truS_ali, srcOf_list, srcOf_tup, srcOf_ali, Ab.got_some, gZ_nil, gC_cons, gT_tup, onlyDat_dat, notAli_dat, notAli_own, getO_some, fin_none, fin_some, finO_own, callA_nil, callA_dat, callA_ali, argS_none, argS_some, rt_ad, nx_ad, isN_none, isN_tup, notN_none, notN_tup, aNx, aRet, aIf, aSet, aAug, aDrop, aNever, aC, aBin, aBinR, aUn, aTst, aChain, aNot, aAnd, aOr, aIfE, aAndV, aOrV, aNotV, aNil, aCons, aTup, aLst, aCall1, aCallD, aIx, aApp, aExt, aSetIx, aTru, sLen, sAny, sAll, sSum, sList, sTuple, fI, fC, fB, aSeqI, aRng1, aFor, aFrz, gN, aUnp, aLc, aYes, aCall, aRep, aRgT, turn, wipeA, br_true, br_false, List.map_nil, List.map_cons, List.nil_append, List.cons_append, List.replicate, List.getElem?_cons_zero, List.getElem?_cons_succ, List.set_cons_zero, List.set_cons_succ, List.length_cons, List.length_nil, sIn_int, sNotIn_int, sEq_int, sNe_int, sEq_bool, sNe_bool, sEq_str]
        exact k
end
end K75

set_option maxHeartbeats 4000000
namespace K75
open PySem PySem.Spec PyProof.Rows L2 Ab
theorem all_mk {K : PySem.W.Frag} {h : Heap} {mg : Str → Option Value} (X : K.In h) (G : h.Ns mainGlobals mg)
    {f_check_quorums : Addr} {od_check_quorums an_check_quorums : Option Addr} {sl_check_quorums : Array (Option Value)} {oc_check_quorums kV_check_quorums dc_check_quorums pm_check_quorums cd_check_quorums ct_check_quorums : Value}
    (a_check_quorums : PySem.W.nsIn K mainGlobals "check_quorums" = some (some (.ref f_check_quorums))) (l_check_quorums : K.lookup f_check_quorums = some ⟨oc_check_quorums, od_check_quorums, .func (PySem.W.fnOf "check_quorums" "check_quorums" (defArgs st_check_quorums) (defBody st_check_quorums) (defScope st_check_quorums) .none kV_check_quorums dc_check_quorums pm_check_quorums an_check_quorums cd_check_quorums ct_check_quorums), sl_check_quorums⟩) (i_check_quorums : PySem.W.codeIn K cd_check_quorums "check_quorums" = true) (k_check_quorums : PySem.W.keepIn K (.ref f_check_quorums) = true)
    {f_apart : Addr} {od_apart an_apart : Option Addr} {sl_apart : Array (Option Value)} {oc_apart kV_apart dc_apart pm_apart cd_apart ct_apart : Value}
    (a_apart : PySem.W.nsIn K mainGlobals "apart" = some (some (.ref f_apart))) (l_apart : K.lookup f_apart = some ⟨oc_apart, od_apart, .func (PySem.W.fnOf "apart" "apart" (defArgs st_apart) (defBody st_apart) (defScope st_apart) .none kV_apart dc_apart pm_apart an_apart cd_apart ct_apart), sl_apart⟩) (i_apart : PySem.W.codeIn K cd_apart "apart" = true) (k_apart : PySem.W.keepIn K (.ref f_apart) = true)
    {f_clash : Addr} {od_clash an_clash : Option Addr} {sl_clash : Array (Option Value)} {oc_clash kV_clash dc_clash pm_clash cd_clash ct_clash : Value}
    (a_clash : PySem.W.nsIn K mainGlobals "clash" = some (some (.ref f_clash))) (l_clash : K.lookup f_clash = some ⟨oc_clash, od_clash, .func (PySem.W.fnOf "clash" "clash" (defArgs st_clash) (defBody st_clash) (defScope st_clash) .none kV_clash dc_clash pm_clash an_clash cd_clash ct_clash), sl_clash⟩) (i_clash : PySem.W.codeIn K cd_clash "clash" = true) (k_clash : PySem.W.keepIn K (.ref f_clash) = true)
    {f_stale_run : Addr} {od_stale_run an_stale_run : Option Addr} {sl_stale_run : Array (Option Value)} {oc_stale_run kV_stale_run dc_stale_run pm_stale_run cd_stale_run ct_stale_run : Value}
    (a_stale_run : PySem.W.nsIn K mainGlobals "stale_run" = some (some (.ref f_stale_run))) (l_stale_run : K.lookup f_stale_run = some ⟨oc_stale_run, od_stale_run, .func (PySem.W.fnOf "stale_run" "stale_run" (defArgs st_stale_run) (defBody st_stale_run) (defScope st_stale_run) .none kV_stale_run dc_stale_run pm_stale_run an_stale_run cd_stale_run ct_stale_run), sl_stale_run⟩) (i_stale_run : PySem.W.codeIn K cd_stale_run "stale_run" = true) (k_stale_run : PySem.W.keepIn K (.ref f_stale_run) = true)
    {f_play : Addr} {od_play an_play : Option Addr} {sl_play : Array (Option Value)} {oc_play kV_play dc_play pm_play cd_play ct_play : Value}
    (a_play : PySem.W.nsIn K mainGlobals "play" = some (some (.ref f_play))) (l_play : K.lookup f_play = some ⟨oc_play, od_play, .func (PySem.W.fnOf "play" "play" (defArgs st_play) (defBody st_play) (defScope st_play) .none kV_play dc_play pm_play an_play cd_play ct_play), sl_play⟩) (i_play : PySem.W.codeIn K cd_play "play" = true) (k_play : PySem.W.keepIn K (.ref f_play) = true)
    {f_is_hit : Addr} {od_is_hit an_is_hit : Option Addr} {sl_is_hit : Array (Option Value)} {oc_is_hit kV_is_hit dc_is_hit pm_is_hit cd_is_hit ct_is_hit : Value}
    (a_is_hit : PySem.W.nsIn K mainGlobals "is_hit" = some (some (.ref f_is_hit))) (l_is_hit : K.lookup f_is_hit = some ⟨oc_is_hit, od_is_hit, .func (PySem.W.fnOf "is_hit" "is_hit" (defArgs st_is_hit) (defBody st_is_hit) (defScope st_is_hit) .none kV_is_hit dc_is_hit pm_is_hit an_is_hit cd_is_hit ct_is_hit), sl_is_hit⟩) (i_is_hit : PySem.W.codeIn K cd_is_hit "is_hit" = true) (k_is_hit : PySem.W.keepIn K (.ref f_is_hit) = true)
    {f_sets_of : Addr} {od_sets_of an_sets_of : Option Addr} {sl_sets_of : Array (Option Value)} {oc_sets_of kV_sets_of dc_sets_of pm_sets_of cd_sets_of ct_sets_of : Value}
    (a_sets_of : PySem.W.nsIn K mainGlobals "sets_of" = some (some (.ref f_sets_of))) (l_sets_of : K.lookup f_sets_of = some ⟨oc_sets_of, od_sets_of, .func (PySem.W.fnOf "sets_of" "sets_of" (defArgs st_sets_of) (defBody st_sets_of) (defScope st_sets_of) .none kV_sets_of dc_sets_of pm_sets_of an_sets_of cd_sets_of ct_sets_of), sl_sets_of⟩) (i_sets_of : PySem.W.codeIn K cd_sets_of "sets_of" = true) (k_sets_of : PySem.W.keepIn K (.ref f_sets_of) = true)
    {f_fatal : Addr} {od_fatal an_fatal : Option Addr} {sl_fatal : Array (Option Value)} {oc_fatal kV_fatal dc_fatal pm_fatal cd_fatal ct_fatal : Value}
    (a_fatal : PySem.W.nsIn K mainGlobals "fatal" = some (some (.ref f_fatal))) (l_fatal : K.lookup f_fatal = some ⟨oc_fatal, od_fatal, .func (PySem.W.fnOf "fatal" "fatal" (defArgs st_fatal) (defBody st_fatal) (defScope st_fatal) .none kV_fatal dc_fatal pm_fatal an_fatal cd_fatal ct_fatal), sl_fatal⟩) (i_fatal : PySem.W.codeIn K cd_fatal "fatal" = true) (k_fatal : PySem.W.keepIn K (.ref f_fatal) = true)
    {f_survives : Addr} {od_survives an_survives : Option Addr} {sl_survives : Array (Option Value)} {oc_survives kV_survives dc_survives pm_survives cd_survives ct_survives : Value}
    (a_survives : PySem.W.nsIn K mainGlobals "survives" = some (some (.ref f_survives))) (l_survives : K.lookup f_survives = some ⟨oc_survives, od_survives, .func (PySem.W.fnOf "survives" "survives" (defArgs st_survives) (defBody st_survives) (defScope st_survives) .none kV_survives dc_survives pm_survives an_survives cd_survives ct_survives), sl_survives⟩) (i_survives : PySem.W.codeIn K cd_survives "survives" = true) (k_survives : PySem.W.keepIn K (.ref f_survives) = true)
    {f_dual : Addr} {od_dual an_dual : Option Addr} {sl_dual : Array (Option Value)} {oc_dual kV_dual dc_dual pm_dual cd_dual ct_dual : Value}
    (a_dual : PySem.W.nsIn K mainGlobals "dual" = some (some (.ref f_dual))) (l_dual : K.lookup f_dual = some ⟨oc_dual, od_dual, .func (PySem.W.fnOf "dual" "dual" (defArgs st_dual) (defBody st_dual) (defScope st_dual) .none kV_dual dc_dual pm_dual an_dual cd_dual ct_dual), sl_dual⟩) (i_dual : PySem.W.codeIn K cd_dual "dual" = true) (k_dual : PySem.W.keepIn K (.ref f_dual) = true)
    {f_is_within : Addr} {od_is_within an_is_within : Option Addr} {sl_is_within : Array (Option Value)} {oc_is_within kV_is_within dc_is_within pm_is_within cd_is_within ct_is_within : Value}
    (a_is_within : PySem.W.nsIn K mainGlobals "is_within" = some (some (.ref f_is_within))) (l_is_within : K.lookup f_is_within = some ⟨oc_is_within, od_is_within, .func (PySem.W.fnOf "is_within" "is_within" (defArgs st_is_within) (defBody st_is_within) (defScope st_is_within) .none kV_is_within dc_is_within pm_is_within an_is_within cd_is_within ct_is_within), sl_is_within⟩) (i_is_within : PySem.W.codeIn K cd_is_within "is_within" = true) (k_is_within : PySem.W.keepIn K (.ref f_is_within) = true)
    {f_majorities : Addr} {od_majorities an_majorities : Option Addr} {sl_majorities : Array (Option Value)} {oc_majorities kV_majorities dc_majorities pm_majorities cd_majorities ct_majorities : Value}
    (a_majorities : PySem.W.nsIn K mainGlobals "majorities" = some (some (.ref f_majorities))) (l_majorities : K.lookup f_majorities = some ⟨oc_majorities, od_majorities, .func (PySem.W.fnOf "majorities" "majorities" (defArgs st_majorities) (defBody st_majorities) (defScope st_majorities) .none kV_majorities dc_majorities pm_majorities an_majorities cd_majorities ct_majorities), sl_majorities⟩) (i_majorities : PySem.W.codeIn K cd_majorities "majorities" = true) (k_majorities : PySem.W.keepIn K (.ref f_majorities) = true)
    {f_busiest : Addr} {od_busiest an_busiest : Option Addr} {sl_busiest : Array (Option Value)} {oc_busiest kV_busiest dc_busiest pm_busiest cd_busiest ct_busiest : Value}
    (a_busiest : PySem.W.nsIn K mainGlobals "busiest" = some (some (.ref f_busiest))) (l_busiest : K.lookup f_busiest = some ⟨oc_busiest, od_busiest, .func (PySem.W.fnOf "busiest" "busiest" (defArgs st_busiest) (defBody st_busiest) (defScope st_busiest) .none kV_busiest dc_busiest pm_busiest an_busiest cd_busiest ct_busiest), sl_busiest⟩) (i_busiest : PySem.W.codeIn K cd_busiest "busiest" = true) (k_busiest : PySem.W.keepIn K (.ref f_busiest) = true)
    {f__law_begin : Addr} {od__law_begin an__law_begin : Option Addr} {sl__law_begin : Array (Option Value)} {oc__law_begin kV__law_begin dc__law_begin pm__law_begin cd__law_begin ct__law_begin : Value}
    (a__law_begin : PySem.W.nsIn K mainGlobals "_law_begin" = some (some (.ref f__law_begin))) (l__law_begin : K.lookup f__law_begin = some ⟨oc__law_begin, od__law_begin, .func (PySem.W.fnOf "_law_begin" "_law_begin" (defArgs st__law_begin) (defBody st__law_begin) (defScope st__law_begin) .none kV__law_begin dc__law_begin pm__law_begin an__law_begin cd__law_begin ct__law_begin), sl__law_begin⟩) (i__law_begin : PySem.W.codeIn K cd__law_begin "_law_begin" = true) (k__law_begin : PySem.W.keepIn K (.ref f__law_begin) = true)
    {f__law_take : Addr} {od__law_take an__law_take : Option Addr} {sl__law_take : Array (Option Value)} {oc__law_take kV__law_take dc__law_take pm__law_take cd__law_take ct__law_take : Value}
    (a__law_take : PySem.W.nsIn K mainGlobals "_law_take" = some (some (.ref f__law_take))) (l__law_take : K.lookup f__law_take = some ⟨oc__law_take, od__law_take, .func (PySem.W.fnOf "_law_take" "_law_take" (defArgs st__law_take) (defBody st__law_take) (defScope st__law_take) .none kV__law_take dc__law_take pm__law_take an__law_take cd__law_take ct__law_take), sl__law_take⟩) (i__law_take : PySem.W.codeIn K cd__law_take "_law_take" = true) (k__law_take : PySem.W.keepIn K (.ref f__law_take) = true)
    {f__law_set : Addr} {od__law_set an__law_set : Option Addr} {sl__law_set : Array (Option Value)} {oc__law_set kV__law_set dc__law_set pm__law_set cd__law_set ct__law_set : Value}
    (a__law_set : PySem.W.nsIn K mainGlobals "_law_set" = some (some (.ref f__law_set))) (l__law_set : K.lookup f__law_set = some ⟨oc__law_set, od__law_set, .func (PySem.W.fnOf "_law_set" "_law_set" (defArgs st__law_set) (defBody st__law_set) (defScope st__law_set) .none kV__law_set dc__law_set pm__law_set an__law_set cd__law_set ct__law_set), sl__law_set⟩) (i__law_set : PySem.W.codeIn K cd__law_set "_law_set" = true) (k__law_set : PySem.W.keepIn K (.ref f__law_set) = true)
    {f__law_least : Addr} {od__law_least an__law_least : Option Addr} {sl__law_least : Array (Option Value)} {oc__law_least kV__law_least dc__law_least pm__law_least cd__law_least ct__law_least : Value}
    (a__law_least : PySem.W.nsIn K mainGlobals "_law_least" = some (some (.ref f__law_least))) (l__law_least : K.lookup f__law_least = some ⟨oc__law_least, od__law_least, .func (PySem.W.fnOf "_law_least" "_law_least" (defArgs st__law_least) (defBody st__law_least) (defScope st__law_least) .none kV__law_least dc__law_least pm__law_least an__law_least cd__law_least ct__law_least), sl__law_least⟩) (i__law_least : PySem.W.codeIn K cd__law_least "_law_least" = true) (k__law_least : PySem.W.keepIn K (.ref f__law_least) = true)
    {f__law_meet : Addr} {od__law_meet an__law_meet : Option Addr} {sl__law_meet : Array (Option Value)} {oc__law_meet kV__law_meet dc__law_meet pm__law_meet cd__law_meet ct__law_meet : Value}
    (a__law_meet : PySem.W.nsIn K mainGlobals "_law_meet" = some (some (.ref f__law_meet))) (l__law_meet : K.lookup f__law_meet = some ⟨oc__law_meet, od__law_meet, .func (PySem.W.fnOf "_law_meet" "_law_meet" (defArgs st__law_meet) (defBody st__law_meet) (defScope st__law_meet) .none kV__law_meet dc__law_meet pm__law_meet an__law_meet cd__law_meet ct__law_meet), sl__law_meet⟩) (i__law_meet : PySem.W.codeIn K cd__law_meet "_law_meet" = true) (k__law_meet : PySem.W.keepIn K (.ref f__law_meet) = true)
    {f_law : Addr} {od_law an_law : Option Addr} {sl_law : Array (Option Value)} {oc_law kV_law dc_law pm_law cd_law ct_law : Value}
    (a_law : PySem.W.nsIn K mainGlobals "law" = some (some (.ref f_law))) (l_law : K.lookup f_law = some ⟨oc_law, od_law, .func (PySem.W.fnOf "law" "law" (defArgs st_law) (defBody st_law) (defScope st_law) .none kV_law dc_law pm_law an_law cd_law ct_law), sl_law⟩) (i_law : PySem.W.codeIn K cd_law "law" = true) (k_law : PySem.W.keepIn K (.ref f_law) = true)
    (z_abs : PySem.W.nsIn K mainGlobals "abs" = some none)
    (z_all : PySem.W.nsIn K mainGlobals "all" = some none)
    (z_any : PySem.W.nsIn K mainGlobals "any" = some none)
    (z_int : PySem.W.nsIn K mainGlobals "int" = some none)
    (z_len : PySem.W.nsIn K mainGlobals "len" = some none)
    (z_list : PySem.W.nsIn K mainGlobals "list" = some none)
    (z_max : PySem.W.nsIn K mainGlobals "max" = some none)
    (z_min : PySem.W.nsIn K mainGlobals "min" = some none)
    (z_range : PySem.W.nsIn K mainGlobals "range" = some none)
    (z_set : PySem.W.nsIn K mainGlobals "set" = some none)
    (z_sorted : PySem.W.nsIn K mainGlobals "sorted" = some none)
    (z_sum : PySem.W.nsIn K mainGlobals "sum" = some none)
    (z_tuple : PySem.W.nsIn K mainGlobals "tuple" = some none)
    {t_MOST_PLACES : Tok} (y_MOST_PLACES : PySem.W.nsIn K mainGlobals "MOST_PLACES" = some (some (.int 6 t_MOST_PLACES)))
    {t_MOST_SETS : Tok} (y_MOST_SETS : PySem.W.nsIn K mainGlobals "MOST_SETS" = some (some (.int 20 t_MOST_SETS)))
    : ∃ D : Defs K mg, True := by
  have F_check_quorums := fun_mk (st := st_check_quorums) l_check_quorums i_check_quorums k_check_quorums
  have F_apart := fun_mk (st := st_apart) l_apart i_apart k_apart
  have F_clash := fun_mk (st := st_clash) l_clash i_clash k_clash
  have F_stale_run := fun_mk (st := st_stale_run) l_stale_run i_stale_run k_stale_run
  have F_play := fun_mk (st := st_play) l_play i_play k_play
  have F_is_hit := fun_mk (st := st_is_hit) l_is_hit i_is_hit k_is_hit
  have F_sets_of := fun_mk (st := st_sets_of) l_sets_of i_sets_of k_sets_of
  have F_fatal := fun_mk (st := st_fatal) l_fatal i_fatal k_fatal
  have F_survives := fun_mk (st := st_survives) l_survives i_survives k_survives
  have F_dual := fun_mk (st := st_dual) l_dual i_dual k_dual
  have F_is_within := fun_mk (st := st_is_within) l_is_within i_is_within k_is_within
  have F_majorities := fun_mk (st := st_majorities) l_majorities i_majorities k_majorities
  have F_busiest := fun_mk (st := st_busiest) l_busiest i_busiest k_busiest
  have F__law_begin := fun_mk (st := st__law_begin) l__law_begin i__law_begin k__law_begin
  have F__law_take := fun_mk (st := st__law_take) l__law_take i__law_take k__law_take
  have F__law_set := fun_mk (st := st__law_set) l__law_set i__law_set k__law_set
  have F__law_least := fun_mk (st := st__law_least) l__law_least i__law_least k__law_least
  have F__law_meet := fun_mk (st := st__law_meet) l__law_meet i__law_meet k__law_meet
  have F_law := fun_mk (st := st_law) l_law i_law k_law
  exact ⟨{ f_check_quorums := f_check_quorums, fd_check_quorums := _, F_check_quorums := F_check_quorums, n_check_quorums := F_check_quorums.binds (ps := ["places", "writes", "reads"]) (fun _ _ _ _ _ _ us hl => match us, hl with | [_, _, _], _ => rfl), g_check_quorums := PySem.W.mg_of X G a_check_quorums, f_apart := f_apart, fd_apart := _, F_apart := F_apart, n_apart := F_apart.binds (ps := ["one", "other"]) (fun _ _ _ _ _ _ us hl => match us, hl with | [_, _], _ => rfl), g_apart := PySem.W.mg_of X G a_apart, f_clash := f_clash, fd_clash := _, F_clash := F_clash, n_clash := F_clash.binds (ps := ["places", "writes", "reads"]) (fun _ _ _ _ _ _ us hl => match us, hl with | [_, _, _], _ => rfl), g_clash := PySem.W.mg_of X G a_clash, f_stale_run := f_stale_run, fd_stale_run := _, F_stale_run := F_stale_run, n_stale_run := F_stale_run.binds (ps := ["places", "writes", "reads"]) (fun _ _ _ _ _ _ us hl => match us, hl with | [_, _, _], _ => rfl), g_stale_run := PySem.W.mg_of X G a_stale_run, f_play := f_play, fd_play := _, F_play := F_play, n_play := F_play.binds (ps := ["places", "run"]) (fun _ _ _ _ _ _ us hl => match us, hl with | [_, _], _ => rfl), g_play := PySem.W.mg_of X G a_play, f_is_hit := f_is_hit, fd_is_hit := _, F_is_hit := F_is_hit, n_is_hit := F_is_hit.binds (ps := ["row", "down"]) (fun _ _ _ _ _ _ us hl => match us, hl with | [_, _], _ => rfl), g_is_hit := PySem.W.mg_of X G a_is_hit, f_sets_of := f_sets_of, fd_sets_of := _, F_sets_of := F_sets_of, n_sets_of := F_sets_of.binds (ps := ["places"]) (fun _ _ _ _ _ _ us hl => match us, hl with | [_], _ => rfl), g_sets_of := PySem.W.mg_of X G a_sets_of, f_fatal := f_fatal, fd_fatal := _, F_fatal := F_fatal, n_fatal := F_fatal.binds (ps := ["places", "rows"]) (fun _ _ _ _ _ _ us hl => match us, hl with | [_, _], _ => rfl), g_fatal := PySem.W.mg_of X G a_fatal, f_survives := f_survives, fd_survives := _, F_survives := F_survives, n_survives := F_survives.binds (ps := ["places", "rows"]) (fun _ _ _ _ _ _ us hl => match us, hl with | [_, _], _ => rfl), g_survives := PySem.W.mg_of X G a_survives, f_dual := f_dual, fd_dual := _, F_dual := F_dual, n_dual := F_dual.binds (ps := ["places", "rows"]) (fun _ _ _ _ _ _ us hl => match us, hl with | [_, _], _ => rfl), g_dual := PySem.W.mg_of X G a_dual, f_is_within := f_is_within, fd_is_within := _, F_is_within := F_is_within, n_is_within := F_is_within.binds (ps := ["one", "other"]) (fun _ _ _ _ _ _ us hl => match us, hl with | [_, _], _ => rfl), g_is_within := PySem.W.mg_of X G a_is_within, f_majorities := f_majorities, fd_majorities := _, F_majorities := F_majorities, n_majorities := F_majorities.binds (ps := ["weights", "need"]) (fun _ _ _ _ _ _ us hl => match us, hl with | [_, _], _ => rfl), g_majorities := PySem.W.mg_of X G a_majorities, f_busiest := f_busiest, fd_busiest := _, F_busiest := F_busiest, n_busiest := F_busiest.binds (ps := ["places", "rows", "counts"]) (fun _ _ _ _ _ _ us hl => match us, hl with | [_, _, _], _ => rfl), g_busiest := PySem.W.mg_of X G a_busiest, f__law_begin := f__law_begin, fd__law_begin := _, F__law_begin := F__law_begin, n__law_begin := F__law_begin.binds (ps := ["script"]) (fun _ _ _ _ _ _ us hl => match us, hl with | [_], _ => rfl), g__law_begin := PySem.W.mg_of X G a__law_begin, f__law_take := f__law_take, fd__law_take := _, F__law_take := F__law_take, n__law_take := F__law_take.binds (ps := ["d", "many"]) (fun _ _ _ _ _ _ us hl => match us, hl with | [_, _], _ => rfl), g__law_take := PySem.W.mg_of X G a__law_take, f__law_set := f__law_set, fd__law_set := _, F__law_set := F__law_set, n__law_set := F__law_set.binds (ps := ["d", "places"]) (fun _ _ _ _ _ _ us hl => match us, hl with | [_, _], _ => rfl), g__law_set := PySem.W.mg_of X G a__law_set, f__law_least := f__law_least, fd__law_least := _, F__law_least := F__law_least, n__law_least := F__law_least.binds (ps := ["rows"]) (fun _ _ _ _ _ _ us hl => match us, hl with | [_], _ => rfl), g__law_least := PySem.W.mg_of X G a__law_least, f__law_meet := f__law_meet, fd__law_meet := _, F__law_meet := F__law_meet, n__law_meet := F__law_meet.binds (ps := ["one", "other"]) (fun _ _ _ _ _ _ us hl => match us, hl with | [_, _], _ => rfl), g__law_meet := PySem.W.mg_of X G a__law_meet, f_law := f_law, fd_law := _, F_law := F_law, n_law := F_law.binds (ps := ["script"]) (fun _ _ _ _ _ _ us hl => match us, hl with | [_], _ => rfl), g_law := PySem.W.mg_of X G a_law, x_law := fun s u => .of_eq rfl, b_abs := PySem.W.mg_none_of X G z_abs, b_all := PySem.W.mg_none_of X G z_all, b_any := PySem.W.mg_none_of X G z_any, b_int := PySem.W.mg_none_of X G z_int, b_len := PySem.W.mg_none_of X G z_len, b_list := PySem.W.mg_none_of X G z_list, b_max := PySem.W.mg_none_of X G z_max, b_min := PySem.W.mg_none_of X G z_min, b_range := PySem.W.mg_none_of X G z_range, b_set := PySem.W.mg_none_of X G z_set, b_sorted := PySem.W.mg_none_of X G z_sorted, b_sum := PySem.W.mg_none_of X G z_sum, b_tuple := PySem.W.mg_none_of X G z_tuple, t_MOST_PLACES := t_MOST_PLACES, c_MOST_PLACES := PySem.W.mg_of X G y_MOST_PLACES, t_MOST_SETS := t_MOST_SETS, c_MOST_SETS := PySem.W.mg_of X G y_MOST_SETS }, trivial⟩
end K75
open PySem PySem.W PyProof.Rows
set_option maxHeartbeats 0 in
theorem PySem.Challenge.cw_tableguild_k75_whole_copies_that_meet_holds : PySem.Challenge.rw_tableguild_k75_whole_copies_that_meet.Holds := by
  w_on; o_law; k_head; (case hw => w_witness2)
  k_fill
  refine L2.walk_of (l := PySem.Challenge.rw_tableguild_k75_whole_copies_that_meet) (n := 63) (k := 4) (x := "script") (CX := fun _ => L2.CX0) (sp := fun w => Ab.toSp _ K75.sp_law) rfl (by decide) rfl ⟨rfl, by decide, by decide⟩ (fun w h Y => PySem.W.kIn_of Y) ?F (fun _ H a ns hl _ hS => Ab.head_of hS fun Kc k => ⟨ns, rfl, rfl, hl, k⟩) (fun _ _ _ _ _ h => h)
  case F =>
    intro w mg fa h KX G hmg
    refine' Exists.elim (K75.all_mk KX G ?a_check_quorums ?l_check_quorums ?i_check_quorums ?k_check_quorums ?a_apart ?l_apart ?i_apart ?k_apart ?a_clash ?l_clash ?i_clash ?k_clash ?a_stale_run ?l_stale_run ?i_stale_run ?k_stale_run ?a_play ?l_play ?i_play ?k_play ?a_is_hit ?l_is_hit ?i_is_hit ?k_is_hit ?a_sets_of ?l_sets_of ?i_sets_of ?k_sets_of ?a_fatal ?l_fatal ?i_fatal ?k_fatal ?a_survives ?l_survives ?i_survives ?k_survives ?a_dual ?l_dual ?i_dual ?k_dual ?a_is_within ?l_is_within ?i_is_within ?k_is_within ?a_majorities ?l_majorities ?i_majorities ?k_majorities ?a_busiest ?l_busiest ?i_busiest ?k_busiest ?a__law_begin ?l__law_begin ?i__law_begin ?k__law_begin ?a__law_take ?l__law_take ?i__law_take ?k__law_take ?a__law_set ?l__law_set ?i__law_set ?k__law_set ?a__law_least ?l__law_least ?i__law_least ?k__law_least ?a__law_meet ?l__law_meet ?i__law_meet ?k__law_meet ?a_law ?l_law ?i_law ?k_law ?z_abs ?z_all ?z_any ?z_int ?z_len ?z_list ?z_max ?z_min ?z_range ?z_set ?z_sorted ?z_sum ?z_tuple ?y_MOST_PLACES ?y_MOST_SETS) fun D _ => ?fin
    (case a_check_quorums => k_is)
    (case l_check_quorums => k_is)
    (case i_check_quorums => k_is)
    (case k_check_quorums => k_is)
    (case a_apart => k_is)
    (case l_apart => k_is)
    (case i_apart => k_is)
    (case k_apart => k_is)
    (case a_clash => k_is)
    (case l_clash => k_is)
    (case i_clash => k_is)
    (case k_clash => k_is)
    (case a_stale_run => k_is)
    (case l_stale_run => k_is)
    (case i_stale_run => k_is)
    (case k_stale_run => k_is)
    (case a_play => k_is)
    (case l_play => k_is)
    (case i_play => k_is)
    (case k_play => k_is)
    (case a_is_hit => k_is)
    (case l_is_hit => k_is)
    (case i_is_hit => k_is)
    (case k_is_hit => k_is)
    (case a_sets_of => k_is)
    (case l_sets_of => k_is)
    (case i_sets_of => k_is)
    (case k_sets_of => k_is)
    (case a_fatal => k_is)
    (case l_fatal => k_is)
    (case i_fatal => k_is)
    (case k_fatal => k_is)
    (case a_survives => k_is)
    (case l_survives => k_is)
    (case i_survives => k_is)
    (case k_survives => k_is)
    (case a_dual => k_is)
    (case l_dual => k_is)
    (case i_dual => k_is)
    (case k_dual => k_is)
    (case a_is_within => k_is)
    (case l_is_within => k_is)
    (case i_is_within => k_is)
    (case k_is_within => k_is)
    (case a_majorities => k_is)
    (case l_majorities => k_is)
    (case i_majorities => k_is)
    (case k_majorities => k_is)
    (case a_busiest => k_is)
    (case l_busiest => k_is)
    (case i_busiest => k_is)
    (case k_busiest => k_is)
    (case a__law_begin => k_is)
    (case l__law_begin => k_is)
    (case i__law_begin => k_is)
    (case k__law_begin => k_is)
    (case a__law_take => k_is)
    (case l__law_take => k_is)
    (case i__law_take => k_is)
    (case k__law_take => k_is)
    (case a__law_set => k_is)
    (case l__law_set => k_is)
    (case i__law_set => k_is)
    (case k__law_set => k_is)
    (case a__law_least => k_is)
    (case l__law_least => k_is)
    (case i__law_least => k_is)
    (case k__law_least => k_is)
    (case a__law_meet => k_is)
    (case l__law_meet => k_is)
    (case i__law_meet => k_is)
    (case k__law_meet => k_is)
    (case a_law => k_is)
    (case l_law => k_is)
    (case i_law => k_is)
    (case k_law => k_is)
    (case z_abs => k_is)
    (case z_all => k_is)
    (case z_any => k_is)
    (case z_int => k_is)
    (case z_len => k_is)
    (case z_list => k_is)
    (case z_max => k_is)
    (case z_min => k_is)
    (case z_range => k_is)
    (case z_set => k_is)
    (case z_sorted => k_is)
    (case z_sum => k_is)
    (case z_tuple => k_is)
    (case y_MOST_PLACES => k_is)
    (case y_MOST_SETS => k_is)
    case fin =>
      have e := hmg.symm.trans D.g_law
      cases e
      exact ⟨_, D.x_law, fun base _ _ => K75.ok_law D⟩
