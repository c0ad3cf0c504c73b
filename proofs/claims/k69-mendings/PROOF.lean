import PyProof.Rows.All
import Wide.All
import OpenK.AllK
import Wide.FinOn
import HandS.ForMost
import KE.DataEq
import KE.DatumOrd
import KE.SortData
import HandS.Conv
import HandS.TupSets
import HandS.Ends
import KE.GoesMore
import HandS.Style
import HandS.TupMul
import KE.DataCmp
import KE.KDictSum
import PyProof.DictMoreH
import HandS.SetKeys
import HandS.SetFor
import HandS.Strs
import KE.DataAny
import HandS.Flow
import HandS.Words
import PySem.Challenge.RW_tableguild_k69_whole_mendings_and_questi
set_option Elab.async false
set_option linter.all false
set_option maxRecDepth 100000
set_option maxHeartbeats 4000000
/-! Ab: an abstract layer over the hand layer: values as data (no addresses), lists that one name owns and changes, states as lists of slots. -/
namespace Ab
open PySem PySem.Spec PyProof.Rows L2

abbrev St := L2.St
/-- what an owned object holds -/
inductive OV where
  | lst (ds : List PyData) | dls (kvs : List (List Int × List PyData))
/-- an abstract value: data that never changes; an owned object (fresh, or of a slot; t tells that it is the t-th argument's); the owned object of slot i -/
inductive AV where
  | dat (d : PyData) | own (t : Option Nat) (o : OV) | ali (i : Nat)
abbrev AS := List (Option AV)
/-- what is fixed during a def: the written part, the heap that must stay, what was frozen at first, the owned arguments' addresses -/
structure Fx where
  K : PySem.W.Frag
  B : Hp
  F0 : Hp
  anc : Nat → Option Addr
/-- a dict's entries: key, the value's list, what it holds -/
inductive Es (K : PySem.W.Frag) (F : Hp) : List (List Int × Addr × List V) → List (List Int × List PyData) → Prop
  | nil : Es K F [] []
  | cons {k : List Int} {b : Addr} {vs : List V} {ds : List PyData} {es : List (List Int × Addr × List V)} {kvs : List (List Int × List PyData)} (h : DpAll K F vs ds) (t : Es K F es kvs) : Es K F ((k, b, vs) :: es) ((k, ds) :: kvs)
abbrev eAd (es : List (List Int × Addr × List V)) : List Addr := es.map fun e => e.2.1
abbrev eKv (es : List (List Int × Addr × List V)) : List (List L2.Key × V) := es.map fun e => (e.1.map Sum.inl, V.ref e.2.1)
def Ho (K : PySem.W.Frag) (F H : Hp) (a : Addr) (S : Addr → Prop) : OV → Prop
  | .lst ds => (∀ b, S b ↔ b = a) ∧ ∃ vs, H a = some (.lst vs) ∧ DpAll K F vs ds
  | .dls kvs => ∃ es, (∀ b, S b ↔ b = a ∨ b ∈ eAd es) ∧ (a :: eAd es).Nodup ∧ H a = some (.dT (eKv es)) ∧ (∀ e ∈ es, H e.2.1 = some (.lst e.2.2)) ∧ Es K F es kvs
/-- the concrete state is as the abstract one tells -/
structure SOk (C : Fx) (F : Hp) (ρ : AS) (σ : St) (H : Hp) : Prop where
  len : ρ.length = σ.length
  fz : Same F H
  fr : Same C.B H
  nf : ∀ b o, F b = some o → C.F0 b = some o ∨ C.B b = none ∨ ∃ xs, o = .tup xs
  dat : ∀ (i : Nat) d, ρ[i]? = some (some (.dat d)) → ∃ v, σ[i]? = some (some v) ∧ Dp C.K F v d
  own : ∃ S : Nat → Addr → Prop, (∀ (i : Nat) t o, ρ[i]? = some (some (.own t o)) → ∃ a, σ[i]? = some (some (.ref a)) ∧ Ho C.K F H a (S i) o ∧ ∀ j, t = some j → C.anc j = some a) ∧
    (∀ i b, S i b → F b = none ∧ C.B b = none ∧ H b ≠ none) ∧ ∀ i j b, S i b → S j b → i = j

/-! ### data stays -/
theorem same_t {K : PySem.W.Frag} {H H' : Hp} {a : Addr} {xs : List V} (e : Same H H') (h : SqT K H a xs) : SqT K H' a xs := by
  rcases h with (h | ⟨o, h⟩) | h
  · exact .inl (.inl (e _ _ h))
  · exact .inl (.inr ⟨o, e _ _ h⟩)
  · exact .inr h
mutual
theorem dp_mono {K : PySem.W.Frag} {F F' : Hp} (e : Same F F') : ∀ (d : PyData) (v : V), Dp K F v d → Dp K F' v d
  | .none, _, h => by cases h; exact .non
  | .bool b, _, h => by cases h; exact .bl b
  | .int i, _, h => by cases h; exact .int i
  | .str x, _, h => by cases h; exact .str x
  | .list ds, _, h => by cases h with | lst hs ha => exact .lst (e.seq hs) (dpa_mono e ds _ ha)
  | .tuple ds, _, h => by cases h with | tup hs ha => exact .tup (same_t e hs) (dpa_mono e ds _ ha)
  | .dict _, _, h => by cases h
theorem dpa_mono {K : PySem.W.Frag} {F F' : Hp} (e : Same F F') : ∀ (ds : List PyData) (vs : List V), DpAll K F vs ds → DpAll K F' vs ds
  | [], _, h => by cases h; exact .nil
  | d :: ds, _, h => by cases h with | cons h1 h2 => exact .cons (dp_mono e d _ h1) (dpa_mono e ds _ h2)
end
mutual
theorem dp_plain {K : PySem.W.Frag} {F : Hp} : ∀ (d : PyData) (v : V), Dp K F v d → d.plain = true
  | .none, _, h => rfl
  | .bool b, _, h => rfl
  | .int i, _, h => rfl
  | .str x, _, h => rfl
  | .list ds, _, h => by cases h with | lst hs ha => simpa [PyData.plain] using dpa_plain ds _ ha
  | .tuple ds, _, h => by cases h with | tup hs ha => simpa [PyData.plain] using dpa_plain ds _ ha
  | .dict _, _, h => by cases h
theorem dpa_plain {K : PySem.W.Frag} {F : Hp} : ∀ (ds : List PyData) (vs : List V), DpAll K F vs ds → PyData.plainAll ds = true
  | [], _, h => rfl
  | d :: ds, _, h => by cases h with | cons h1 h2 => simp [PyData.plainAll, dp_plain d _ h1, dpa_plain ds _ h2]
end
theorem dpa_len {K : PySem.W.Frag} {F : Hp} : ∀ {ds : List PyData} {vs : List V}, DpAll K F vs ds → vs.length = ds.length
  | [], _, h => by cases h; rfl
  | d :: ds, _, h => by cases h with | cons h1 h2 => simp [dpa_len h2]
theorem dpa_get {K : PySem.W.Frag} {F : Hp} : ∀ {ds : List PyData} {vs : List V}, DpAll K F vs ds → ∀ {i : Nat} {d : PyData}, ds[i]? = some d → ∃ v, vs[i]? = some v ∧ Dp K F v d
  | [], _, _, i, d, e => by simp at e
  | c :: ds, _, h, i, d, e => by
    cases h with
    | cons h1 h2 =>
      cases i with
      | zero => simp at e; subst e; exact ⟨_, rfl, h1⟩
      | succ i =>
        obtain ⟨v, e1, e2⟩ := dpa_get h2 (i := i) (d := d) (by simpa using e)
        exact ⟨v, by simpa using e1, e2⟩
theorem dpa_app {K : PySem.W.Frag} {F : Hp} : ∀ {ds es : List PyData} {vs ws : List V}, DpAll K F vs ds → DpAll K F ws es → DpAll K F (vs ++ ws) (ds ++ es)
  | [], _, _, _, h, g => by cases h; exact g
  | d :: ds, _, _, _, h, g => by cases h with | cons h1 h2 => exact .cons h1 (dpa_app h2 g)
theorem dpa_set {K : PySem.W.Frag} {F : Hp} {v : V} {d : PyData} (hv : Dp K F v d) : ∀ {ds : List PyData} {vs : List V}, DpAll K F vs ds → ∀ i : Nat, DpAll K F (vs.set i v) (ds.set i d)
  | [], _, h, _ => by cases h; exact .nil
  | c :: ds, _, h, i => by
    cases h with
    | cons h1 h2 =>
      cases i with
      | zero => exact .cons hv h2
      | succ i => exact .cons h1 (dpa_set hv h2 i)
theorem es_mono {K : PySem.W.Frag} {F F' : Hp} (e : Same F F') : ∀ {es : List (List Int × Addr × List V)} {kvs : List (List Int × List PyData)}, Es K F es kvs → Es K F' es kvs
  | _, _, .nil => .nil
  | _, _, .cons h t => .cons (dpa_mono e _ _ h) (es_mono e t)
theorem ho_mono {K : PySem.W.Frag} {F F' H H' : Hp} {a : Addr} {S : Addr → Prop} {o : OV} (e : Same F F') (k : ∀ b, S b → H' b = H b) (h : Ho K F H a S o) : Ho K F' H' a S o := by
  cases o with
  | lst ds =>
    obtain ⟨h1, vs, h2, h3⟩ := h
    exact ⟨h1, vs, by rw [k a ((h1 a).mpr rfl)]; exact h2, dpa_mono e _ _ h3⟩
  | dls kvs =>
    obtain ⟨es, h1, h2, h3, h4, h5⟩ := h
    exact ⟨es, h1, h2, by rw [k a ((h1 a).mpr (.inl rfl))]; exact h3, fun x hx => by rw [k _ ((h1 _).mpr (.inr (List.mem_map.mpr ⟨x, hx, rfl⟩)))]; exact h4 x hx, es_mono e h5⟩

/-- an owned object is no tuple -/
theorem ho_nt {K : PySem.W.Frag} {F H : Hp} {a : Addr} {S : Addr → Prop} {o : OV} (h : Ho K F H a S o) {b : Addr} (sb : S b) (xs : List V) : H b ≠ some (.tup xs) := fun z => by
  cases o with
  | lst ds =>
    obtain ⟨h1, vs, h2, h3⟩ := h
    have := (h1 b).mp sb
    subst this
    rw [h2] at z
    cases z
  | dls kvs =>
    obtain ⟨es, h1, h2, h3, h4, h5⟩ := h
    rcases (h1 b).mp sb with e | e
    · subst e
      rw [h3] at z
      cases z
    · obtain ⟨x, hx, rfl⟩ := List.mem_map.mp e
      rw [h4 x hx] at z
      cases z
/-! ### steps of the state -/
variable {C : Fx} {F F' : Hp} {ρ : AS} {σ : St} {H H' : Hp} {p : Addr} {o : HO} {v : V} {d : PyData}
theorem same_upd' (hp : H p = none) : Same H (upd H p o) := fun b x e => by
  rw [upd_ne (ne_of_none e hp)]
  exact e
theorem SOk.bnone (I : SOk C F ρ σ H) (hp : H p = none) : C.B p = none := by
  cases h : C.B p with
  | none => rfl
  | some o => rw [I.fr p o h] at hp; cases hp
theorem SOk.fnone (I : SOk C F ρ σ H) (hp : H p = none) : F p = none := by
  cases h : F p with
  | none => rfl
  | some o => rw [I.fz p o h] at hp; cases hp
/-- the heap grows by what is not tracked yet -/
theorem SOk.grow (I : SOk C F ρ σ H) (h : Same H H') : SOk C F ρ σ H' := by
  obtain ⟨S, s1, s2, s3⟩ := I.own
  refine ⟨I.len, I.fz.trans h, I.fr.trans h, I.nf, I.dat, S, fun i t o e => ?_, fun i b sb => ?_, s3⟩
  · obtain ⟨a, e1, e2, e3⟩ := s1 i t o e
    refine ⟨a, e1, ho_mono (Same.refl F) (fun b sb => ?_) e2, e3⟩
    obtain ⟨_, _, n⟩ := s2 i b sb
    cases q : H b with
    | none => exact absurd q n
    | some u => exact h b u q
  · obtain ⟨n1, n2, n3⟩ := s2 i b sb
    refine ⟨n1, n2, fun z => ?_⟩
    cases q : H b with
    | none => exact absurd q n3
    | some u => rw [h b u q] at z; cases z
/-- a new object that will never change -/
theorem SOk.imm (I : SOk C F ρ σ H) (hp : H p = none) : SOk C (upd F p o) ρ σ (upd H p o) := by
  have hF := I.fnone hp
  have hB := I.bnone hp
  have e : Same F (upd F p o) := same_upd' hF
  have J := I.grow (same_upd' (o := o) hp)
  obtain ⟨S, s1, s2, s3⟩ := I.own
  refine ⟨I.len, fun b u q => ?_, J.fr, fun b u q => ?_, fun i d q => ?_, S, fun i t o' q => ?_, fun i b sb => ?_, s3⟩
  · by_cases hb : b = p
    · subst hb
      rw [upd_same] at q ⊢
      exact q
    · rw [upd_ne hb] at q ⊢
      exact I.fz b u q
  · by_cases hb : b = p
    · subst hb
      exact .inr (.inl hB)
    · rw [upd_ne hb] at q
      exact I.nf b u q
  · obtain ⟨v, q1, q2⟩ := I.dat i d q
    exact ⟨v, q1, dp_mono e _ _ q2⟩
  · obtain ⟨a, e1, e2, e3⟩ := s1 i t o' q
    refine ⟨a, e1, ho_mono e (fun b sb => ?_) e2, e3⟩
    obtain ⟨_, _, n⟩ := s2 i b sb
    exact upd_ne fun z => n (by rw [z]; exact hp)
  · obtain ⟨n1, n2, n3⟩ := s2 i b sb
    have hb : b ≠ p := fun z => n3 (by rw [z]; exact hp)
    rw [upd_ne hb, upd_ne hb]
    exact ⟨n1, n2, n3⟩
theorem dp_tup {K : PySem.W.Frag} {vs : List V} {ds : List PyData} (h : F p = some (.tup vs)) (ha : DpAll K F vs ds) : Dp K F (.ref p) (.tuple ds) := .tup (SqT.of h) ha
/-- a value put ahead of all slots -/
theorem SOk.cons_dat (I : SOk C F ρ σ H) (h : Dp C.K F v d) : SOk C F (some (.dat d) :: ρ) (some v :: σ) H := by
  obtain ⟨S, s1, s2, s3⟩ := I.own
  refine ⟨by simp [I.len], I.fz, I.fr, I.nf, fun i d' q => ?_, fun i b => match i with | 0 => False | i + 1 => S i b, fun i t o q => ?_, fun i b sb => ?_, fun i j b si sj => ?_⟩
  · cases i with
    | zero => simp at q; subst q; exact ⟨v, rfl, h⟩
    | succ i => simpa using I.dat i d' (by simpa using q)
  · cases i with
    | zero => simp at q
    | succ i => simpa using s1 i t o (by simpa using q)
  · cases i with
    | zero => exact sb.elim
    | succ i => exact s2 i b sb
  · cases i with
    | zero => exact si.elim
    | succ i =>
      cases j with
      | zero => exact sj.elim
      | succ j => rw [s3 i j b si sj]
theorem SOk.tail {x : Option AV} {y : Option V} (I : SOk C F (x :: ρ) (y :: σ) H) : SOk C F ρ σ H := by
  obtain ⟨S, s1, s2, s3⟩ := I.own
  refine ⟨by simpa using I.len, I.fz, I.fr, I.nf, fun i d' q => by simpa using I.dat (i + 1) d' (by simpa using q), fun i b => S (i + 1) b, fun i t o q => by simpa using s1 (i + 1) t o (by simpa using q), fun i b sb => s2 (i + 1) b sb, fun i j b si sj => by
    have := s3 _ _ b si sj
    omega⟩
/-- a new list that is owned -/
theorem SOk.newOwn {vs : List V} {ds : List PyData} (I : SOk C F ρ σ H) (hp : H p = none) (ha : DpAll C.K F vs ds) : SOk C F (some (.own none (.lst ds)) :: ρ) (some (.ref p) :: σ) (upd H p (.lst vs)) := by
  have hF := I.fnone hp
  have hB := I.bnone hp
  have J := I.grow (same_upd' (o := .lst vs) hp)
  obtain ⟨S, s1, s2, s3⟩ := J.own
  have np : ∀ i b, S i b → b ≠ p ∨ True := fun _ _ _ => .inr trivial
  obtain ⟨T, t1, t2, t3⟩ := I.own
  have nT : ∀ i b, T i b → b ≠ p := fun i b sb z => (t2 i b sb).2.2 (by rw [z]; exact hp)
  refine ⟨by simp [I.len], J.fz, J.fr, J.nf, fun i d' q => ?_, fun i b => match i with | 0 => b = p | i + 1 => T i b, fun i t o q => ?_, fun i b sb => ?_, fun i j b si sj => ?_⟩
  · cases i with
    | zero => simp at q
    | succ i => simpa using J.dat i d' (by simpa using q)
  · cases i with
    | zero =>
      simp at q
      obtain ⟨rfl, rfl⟩ := q
      exact ⟨p, rfl, ⟨fun b => Iff.rfl, vs, upd_same, ha⟩, fun j e => nomatch e⟩
    | succ i =>
      obtain ⟨a, e1, e2, e3⟩ := t1 i t o (by simpa using q)
      exact ⟨a, by simpa using e1, ho_mono (Same.refl F) (fun b sb => upd_ne (nT i b sb)) e2, e3⟩
  · cases i with
    | zero =>
      have e : b = p := sb
      subst e
      exact ⟨hF, hB, by rw [upd_same]; simp⟩
    | succ i =>
      have sb' : T i b := sb
      rw [upd_ne (nT i b sb')]
      exact t2 i b sb'
  · cases i with
    | zero =>
      cases j with
      | zero => rfl
      | succ j => exact absurd si (nT j b sj)
    | succ i =>
      cases j with
      | zero => exact absurd sj (nT i b si)
      | succ j => rw [t3 i j b si sj]
/-- an owned list becomes data for good -/
theorem SOk.freeze {t : Option Nat} {ds : List PyData} (I : SOk C F (some (.own t (.lst ds)) :: ρ) (some v :: σ) H) : ∃ F', Same F F' ∧ SOk C F' ρ σ H ∧ Dp C.K F' v (.list ds) := by
  obtain ⟨S, s1, s2, s3⟩ := I.own
  obtain ⟨a, e1, ⟨e2, vs, e3, e4⟩, _⟩ := s1 0 t (.lst ds) rfl
  have ev : v = .ref a := by simpa using e1
  subst ev
  have sa : S 0 a := (e2 a).mpr rfl
  obtain ⟨n1, n2, n3⟩ := s2 0 a sa
  have e : Same F (upd F a (.lst vs)) := same_upd' n1
  refine ⟨upd F a (.lst vs), e, ?_, .lst (SqL.of upd_same) (dpa_mono e _ _ e4)⟩
  have J := I.tail
  refine ⟨J.len, fun b u q => ?_, J.fr, fun b u q => ?_, fun i d q => ?_, fun i b => S (i + 1) b, fun i t' o q => ?_, fun i b sb => ?_, fun i j b si sj => ?_⟩
  · by_cases hb : b = a
    · subst hb
      rw [upd_same] at q
      cases q
      exact e3
    · rw [upd_ne hb] at q
      exact I.fz b u q
  · by_cases hb : b = a
    · subst hb
      exact .inr (.inl n2)
    · rw [upd_ne hb] at q
      exact I.nf b u q
  · obtain ⟨w, q1, q2⟩ := J.dat i d q
    exact ⟨w, q1, dp_mono e _ _ q2⟩
  · obtain ⟨c, f1, f2, f3⟩ := s1 (i + 1) t' o (by simpa using q)
    exact ⟨c, by simpa using f1, ho_mono e (fun _ _ => rfl) f2, f3⟩
  · have hb : b ≠ a := fun z => by
      subst z
      have := s3 _ _ _ sb sa
      omega
    rw [upd_ne hb]
    exact s2 (i + 1) b sb
  · have := s3 _ _ b si sj
    omega
/-- a slot stored -/
theorem SOk.set_dat (I : SOk C F ρ σ H) (h : Dp C.K F v d) (i : Nat) : SOk C F (ρ.set i (some (.dat d))) (σ.set i (some v)) H := by
  obtain ⟨S, s1, s2, s3⟩ := I.own
  refine ⟨by simp [I.len], I.fz, I.fr, I.nf, fun j d' q => ?_, S, fun j t o q => ?_, s2, s3⟩
  · rw [List.getElem?_set] at q ⊢
    split at q
    · rename_i hij
      subst hij
      split at q
      · rename_i hlt
        rw [if_pos rfl, if_pos (by rw [← I.len]; exact hlt)]
        simp at q
        subst q
        exact ⟨v, rfl, h⟩
      · cases q
    · rename_i hij
      rw [if_neg hij]
      exact I.dat j d' q
  · rw [List.getElem?_set] at q ⊢
    split at q
    · rename_i hij
      split at q
      · simp at q
      · cases q
    · rename_i hij
      rw [if_neg hij]
      exact s1 j t o q
theorem SOk.set_own {t : Option Nat} {o : OV} (I : SOk C F (some (.own t o) :: ρ) (some v :: σ) H) (i : Nat) : SOk C F (ρ.set i (some (.own t o))) (σ.set i (some v)) H := by
  obtain ⟨S, s1, s2, s3⟩ := I.own
  have J := I.tail
  refine ⟨by simp [J.len], I.fz, I.fr, I.nf, fun j d' q => ?_, fun j b => if j = i then S 0 b else S (j + 1) b, fun j t' o' q => ?_, fun j b sb => ?_, fun j k b sj sk => ?_⟩
  · rw [List.getElem?_set] at q ⊢
    split at q
    · split at q
      · simp at q
      · cases q
    · rename_i hij
      rw [if_neg hij]
      exact J.dat j d' q
  · rw [List.getElem?_set] at q ⊢
    split at q
    · rename_i hij
      subst hij
      split at q
      · rename_i hlt
        simp at q
        obtain ⟨rfl, rfl⟩ := q
        obtain ⟨a, e1, e2, e3⟩ := s1 0 t o rfl
        refine ⟨a, ?_, by simpa using e2, e3⟩
        rw [if_pos rfl, if_pos (by rw [← J.len]; exact hlt)]
        simpa using e1
      · cases q
    · rename_i hij
      rw [if_neg hij]
      have hji : ¬ j = i := fun z => hij z.symm
      obtain ⟨a, e1, e2, e3⟩ := s1 (j + 1) t' o' (by simpa using q)
      exact ⟨a, by simpa using e1, by simpa [hji] using e2, e3⟩
  · have sb : (if j = i then S 0 b else S (j + 1) b) := sb
    split at sb
    · exact s2 0 b sb
    · exact s2 (j + 1) b sb
  · have sj : (if j = i then S 0 b else S (j + 1) b) := sj
    have sk : (if k = i then S 0 b else S (k + 1) b) := sk
    split at sj <;> split at sk
    · omega
    · have := s3 _ _ _ sj sk
      omega
    · have := s3 _ _ _ sj sk
      omega
    · have := s3 _ _ _ sj sk
      omega
/-- slots forgotten -/
theorem SOk.weak {ρ' : AS} {σ' : St} (I : SOk C F ρ σ H) (hl : ρ'.length = σ'.length) (w : ∀ (i : Nat) x, ρ'[i]? = some (some x) → ρ[i]? = some (some x) ∧ σ'[i]? = σ[i]?) : SOk C F ρ' σ' H := by
  obtain ⟨S, s1, s2, s3⟩ := I.own
  refine ⟨hl, I.fz, I.fr, I.nf, fun i d q => ?_, S, fun i t o q => ?_, s2, s3⟩
  · obtain ⟨q1, q2⟩ := w i _ q
    obtain ⟨v, e1, e2⟩ := I.dat i d q1
    exact ⟨v, q2.trans e1, e2⟩
  · obtain ⟨q1, q2⟩ := w i _ q
    obtain ⟨a, e1, e2, e3⟩ := s1 i t o q1
    exact ⟨a, q2.trans e1, e2, e3⟩
/-- the owned list of slot i is changed -/
theorem SOk.mut {i : Nat} {t : Option Nat} {ds ds' : List PyData} {vs' : List V} {a : Addr} (I : SOk C F ρ σ H) (hi : ρ[i]? = some (some (.own t (.lst ds)))) (ha : σ[i]? = some (some (.ref a))) (hv : DpAll C.K F vs' ds') :
    SOk C F (ρ.set i (some (.own t (.lst ds')))) σ (upd H a (.lst vs')) := by
  obtain ⟨S, s1, s2, s3⟩ := I.own
  obtain ⟨a', e1, ⟨e2, vs, e3, e4⟩, e5⟩ := s1 i t (.lst ds) hi
  have : a' = a := by
    rw [ha] at e1
    simpa using e1.symm
  subst this
  have sa : S i a' := (e2 a').mpr rfl
  obtain ⟨n1, n2, n3⟩ := s2 i a' sa
  have ilt : i < ρ.length := (List.getElem?_eq_some_iff.mp hi).1
  refine ⟨by simp [I.len], fun b u q => ?_, fun b u q => ?_, I.nf, fun j d q => ?_, S, fun j t' o q => ?_, fun j b sb => ?_, s3⟩
  · rw [upd_ne (ne_of_none q n1)]
    exact I.fz b u q
  · rw [upd_ne (ne_of_none q n2)]
    exact I.fr b u q
  · rw [List.getElem?_set] at q
    split at q
    · simp at q
    · exact I.dat j d q
  · rw [List.getElem?_set] at q
    split at q
    · rename_i hij
      subst hij
      simp at q
      obtain ⟨rfl, rfl⟩ := q
      exact ⟨a', ha, ⟨e2, vs', upd_same, hv⟩, e5⟩
    · rename_i hij
      obtain ⟨c, f1, f2, f3⟩ := s1 j t' o q
      refine ⟨c, f1, ho_mono (Same.refl F) (fun b sb => upd_ne fun z => ?_) f2, f3⟩
      subst z
      exact hij (s3 _ _ _ sa sb)
  · obtain ⟨m1, m2, m3⟩ := s2 j b sb
    refine ⟨m1, m2, ?_⟩
    by_cases hb : b = a'
    · subst hb
      rw [upd_same]
      simp
    · rw [upd_ne hb]
      exact m3
theorem SOk.at_own {i : Nat} {t : Option Nat} {ds : List PyData} (I : SOk C F ρ σ H) (hi : ρ[i]? = some (some (.own t (.lst ds)))) : ∃ a vs, σ[i]? = some (some (.ref a)) ∧ H a = some (.lst vs) ∧ DpAll C.K F vs ds := by
  obtain ⟨S, s1, s2, s3⟩ := I.own
  obtain ⟨a, e1, ⟨e2, vs, e3, e4⟩, e5⟩ := s1 i t (.lst ds) hi
  exact ⟨a, vs, e1, e3, e4⟩
end Ab

set_option maxHeartbeats 4000000
/-! Ab2: readings over abstract states, and how they stand over the hand layer's judgements. -/
namespace Ab
open PySem PySem.Spec PyProof.Rows L2

def Res (C : Fx) (F : Hp) (ρ : AS) (σ : St) (H : Hp) (v : V) : AV → Prop
  | .dat d => SOk C F ρ σ H ∧ Dp C.K F v d
  | .own t o => SOk C F (some (.own t o) :: ρ) (some v :: σ) H
  | .ali i => SOk C F ρ σ H ∧ σ[i]? = some (some v)
theorem Res.ok {C : Fx} {F : Hp} {ρ : AS} {σ : St} {H : Hp} {v : V} : ∀ {x : AV}, Res C F ρ σ H v x → SOk C F ρ σ H
  | .dat _, h => h.1
  | .own _ _, h => SOk.tail h
  | .ali _, h => h.1
abbrev ATE := AS → (AV → AS → Prop) → Prop
abbrev ATT := AS → (Bool → AS → Prop) → Prop
abbrev ATA := AS → (List AV → AS → Prop) → Prop
structure AD where
  nx : AS → Prop
  rt : AV → AS → Prop
  bk : AS → Prop
  ct : AS → Prop
abbrev ATS := AD → AS → Prop
/-- an argument's reading -/
def ArgOk (C : Fx) (F : Hp) (σ : St) (v : V) : AV → Prop
  | .dat d => Dp C.K F v d
  | .own _ _ => False
  | .ali i => σ[i]? = some (some v)
abbrev ArgsOk (C : Fx) (F : Hp) (σ : St) : List V → List AV → Prop := Paired (ArgOk C F σ)

def cE (K : PySem.W.Frag) (T : ATE) : TE := fun σ H Q => ∃ (C : Fx) (F : Hp) (ρ : AS) (Kc : AV → AS → Prop), C.K = K ∧ SOk C F ρ σ H ∧ T ρ Kc ∧ ∀ F' v x ρ' H', Same F F' → Res C F' ρ' σ H' v x → Kc x ρ' → Q v H'
def cT (K : PySem.W.Frag) (T : ATT) : TT := fun σ H Q => ∃ (C : Fx) (F : Hp) (ρ : AS) (Kc : Bool → AS → Prop), C.K = K ∧ SOk C F ρ σ H ∧ T ρ Kc ∧ ∀ F' b ρ' H', Same F F' → SOk C F' ρ' σ H' → Kc b ρ' → Q b H'
def cA (K : PySem.W.Frag) (T : ATA) : TA := fun σ H Q => ∃ (C : Fx) (F : Hp) (ρ : AS) (Kc : List AV → AS → Prop), C.K = K ∧ SOk C F ρ σ H ∧ T ρ Kc ∧ ∀ F' vs xs ρ' H', Same F F' → SOk C F' ρ' σ H' → ArgsOk C F' σ vs xs → Kc xs ρ' → Q vs H'
def cS (K : PySem.W.Frag) (T : ATS) : TS := fun D σ H => ∃ (C : Fx) (F : Hp) (ρ : AS) (A : AD), C.K = K ∧ SOk C F ρ σ H ∧ T A ρ ∧
  (∀ F' ρ' σ' H', Same F F' → SOk C F' ρ' σ' H' → A.nx ρ' → D.nx σ' H') ∧ (∀ F' ρ' σ' H' v x, Same F F' → Res C F' ρ' σ' H' v x → A.rt x ρ' → D.rt v H') ∧
  (∀ F' ρ' σ' H', Same F F' → SOk C F' ρ' σ' H' → A.bk ρ' → D.bk σ' H') ∧ (∀ F' ρ' σ' H', Same F F' → SOk C F' ρ' σ' H' → A.ct ρ' → D.ct σ' H')
def AE (X : Cx) (e : Expr) (T : ATE) : Prop := PE X e (cE X.K T)
def AT (X : Cx) (e : Expr) (T : ATT) : Prop := PT X e (cT X.K T)
def AW (X : Cx) (e : Expr) (T : ATT) : Prop := PW X e (cT X.K T)
def AA (X : Cx) (es : List Expr) (T : ATA) : Prop := PA X es (cA X.K T)
def AStm (X : Cx) (s : Stmt) (T : ATS) : Prop := PS X s (cS X.K T)
def ASs (X : Cx) (s : List Stmt) (T : ATS) : Prop := PSs X s (cS X.K T)

section
variable {X : Cx} {e : Expr} {es : List Expr} {st : Stmt} {sts : List Stmt}
theorem pe_of {t t' : TE} (h : PE X e t) (w : ∀ σ H Q, t' σ H Q → t σ H Q) : PE X e t' := ⟨fun pins s σ H Q I q => h.run pins s σ H Q I (w σ H Q q)⟩
theorem pt_of {t t' : TT} (h : PT X e t) (w : ∀ σ H Q, t' σ H Q → t σ H Q) : PT X e t' := ⟨fun pins s σ H Q I q => h.run pins s σ H Q I (w σ H Q q)⟩
theorem pw_of {t t' : TT} (h : PW X e t) (w : ∀ σ H Q, t' σ H Q → t σ H Q) : PW X e t' := ⟨fun whole pins s σ H Q I q => h.run whole pins s σ H Q I (w σ H Q q)⟩
theorem pa_of {t t' : TA} (h : PA X es t) (w : ∀ σ H Q, t' σ H Q → t σ H Q) : PA X es t' := ⟨fun pos pins s σ H Q I q => h.run pos pins s σ H Q I (w σ H Q q)⟩
theorem ps_of {t t' : TS} (h : PS X st t) (w : ∀ D σ H, t' D σ H → t D σ H) : PS X st t' := ⟨fun pins s σ H D I q => h.run pins s σ H D I (w D σ H q)⟩
theorem pss_of {t t' : TS} (h : PSs X sts t) (w : ∀ D σ H, t' D σ H → t D σ H) : PSs X sts t' := ⟨fun pins s σ H D I q => h.run pins s σ H D I (w D σ H q)⟩
end

/-! ### data operands -/
/-- a value as data (an owned fresh list is frozen) -/
def dd : AV → (PyData → Prop) → Prop
  | .dat d, k => k d
  | .own _ (.lst ds), k => k (.list ds)
  | _, _ => False
theorem Res.data {C : Fx} {F : Hp} {ρ : AS} {σ : St} {H : Hp} {v : V} {x : AV} {k : PyData → Prop} (h : Res C F ρ σ H v x) (hk : dd x k) : ∃ F' d, Same F F' ∧ SOk C F' ρ σ H ∧ Dp C.K F' v d ∧ k d := by
  cases x with
  | dat d => exact ⟨F, d, Same.refl F, h.1, h.2, hk⟩
  | own t o =>
    cases o with
    | lst ds =>
      obtain ⟨F', s, I, hd⟩ := SOk.freeze h
      exact ⟨F', _, s, I, hd, hk⟩
    | dls kvs => exact hk.elim
  | ali i => exact hk.elim
abbrev S1 := PyData → (PyData → Prop) → Prop
abbrev S2 := PyData → PyData → (PyData → Prop) → Prop
/-- a reading of values by data, one and two places -/
def DR1 (K : PySem.W.Frag) (r : V → Hp → VK → Prop) (s : S1) : Prop := ∀ (C : Fx) (F : Hp) (ρ : AS) (σ : St) (H : Hp) (x : V) (dx : PyData) (Q : VK) (Kd : PyData → Prop), C.K = K → SOk C F ρ σ H → Dp C.K F x dx → s dx Kd →
  (∀ F' z d H', Same F F' → SOk C F' ρ σ H' → Dp C.K F' z d → Kd d → Q z H') → r x H Q
def DR2 (K : PySem.W.Frag) (r : R2) (s : S2) : Prop := ∀ (C : Fx) (F : Hp) (ρ : AS) (σ : St) (H : Hp) (x y : V) (dx dy : PyData) (Q : VK) (Kd : PyData → Prop), C.K = K → SOk C F ρ σ H → Dp C.K F x dx → Dp C.K F y dy → s dx dy Kd →
  (∀ F' z d H', Same F F' → SOk C F' ρ σ H' → Dp C.K F' z d → Kd d → Q z H') → r x y H Q
def aBin (s : S2) (Ta Tb : ATE) : ATE := fun ρ K => Ta ρ fun x ρ1 => dd x fun dx => Tb ρ1 fun y ρ2 => dd y fun dy => s dx dy fun d => K (.dat d) ρ2
def aUn (s : S1) (Ta : ATE) : ATE := fun ρ K => Ta ρ fun x ρ1 => dd x fun dx => s dx fun d => K (.dat d) ρ1
/-- two ways by a truth value -/
def br (b : Bool) (A B : Prop) : Prop := (b = true → A) ∧ (b = false → B)
def bb : PyData → (Bool → Prop) → Prop
  | .bool b, k => k b
  | _, _ => False
def aTst (T : ATE) : ATT := fun ρ K => T ρ fun x ρ' => dd x fun d => bb d fun b => K b ρ'
def aChain (s s' : S2) (Ta Tb Tc : ATE) : ATE := fun ρ K => Ta ρ fun x ρ1 => dd x fun dx => Tb ρ1 fun y ρ2 => dd y fun dy => s dx dy fun d => bb d fun b =>
  br b (Tc ρ2 fun z ρ3 => dd z fun dz => s' dy dz fun d' => K (.dat d') ρ3) (K (.dat (.bool false)) ρ2)
section
variable {K : PySem.W.Frag} {Ta Tb Tc : ATE} {s s' : S2} {r r' : R2}
theorem w_op (hs : DR2 K r s) : ∀ σ H Q, cE K (aBin s Ta Tb) σ H Q → tOp r (cE K Ta) (cE K Tb) σ H Q := fun σ H Q ⟨C, F, ρ, Kc, hK, I, h, q⟩ => by
  refine ⟨C, F, ρ, _, hK, I, h, fun F1 v x ρ1 H1 s1 r1 k1 => ?_⟩
  obtain ⟨F2, d, s2, I2, hd, k2⟩ := r1.data k1
  refine ⟨C, F2, ρ1, _, hK, I2, k2, fun F3 w y ρ2 H2 s3 r3 k3 => ?_⟩
  obtain ⟨F4, e, s4, I4, he, k4⟩ := r3.data k3
  exact hs C F4 ρ2 σ H2 v w d e Q _ hK I4 (dp_mono (s3.trans s4) _ _ hd) he k4 fun F5 z dz H5 s5 I5 hz kz =>
    q F5 z (.dat dz) ρ2 H5 ((((s1.trans s2).trans s3).trans s4).trans s5) ⟨I5, hz⟩ kz
theorem w_un {r : V → Hp → VK → Prop} {s : S1} (hs : DR1 K r s) : ∀ σ H Q, cE K (aUn s Ta) σ H Q → tUn r (cE K Ta) σ H Q := fun σ H Q ⟨C, F, ρ, Kc, hK, I, h, q⟩ => by
  refine ⟨C, F, ρ, _, hK, I, h, fun F1 v x ρ1 H1 s1 r1 k1 => ?_⟩
  obtain ⟨F2, d, s2, I2, hd, k2⟩ := r1.data k1
  exact hs C F2 ρ1 σ H1 v d Q _ hK I2 hd k2 fun F5 z dz H5 s5 I5 hz kz => q F5 z (.dat dz) ρ1 H5 ((s1.trans s2).trans s5) ⟨I5, hz⟩ kz
theorem dp_bool {C : Fx} {F : Hp} {z : V} {d : PyData} {k : Bool → Prop} (h : Dp C.K F z d) (hb : bb d k) : ∃ b, z = .bl b ∧ d = .bool b ∧ k b := by
  cases h with
  | bl b => exact ⟨b, rfl, rfl, hb⟩
  | _ => exact hb.elim
theorem w_chain (hs : DR2 K r s) (hs' : DR2 K r' s') : ∀ σ H Q, cE K (aChain s s' Ta Tb Tc) σ H Q → tChain r r' (cE K Ta) (cE K Tb) (cE K Tc) σ H Q := fun σ H Q ⟨C, F, ρ, Kc, hK, I, h, q⟩ => by
  refine ⟨C, F, ρ, _, hK, I, h, fun F1 v x ρ1 H1 s1 r1 k1 => ?_⟩
  obtain ⟨F2, d, s2, I2, hd, k2⟩ := r1.data k1
  refine ⟨C, F2, ρ1, _, hK, I2, k2, fun F3 w y ρ2 H2 s3 r3 k3 => ?_⟩
  obtain ⟨F4, e, s4, I4, he, k4⟩ := r3.data k3
  refine hs C F4 ρ2 σ H2 v w d e _ _ hK I4 (dp_mono (s3.trans s4) _ _ hd) he k4 fun F5 z dz H5 s5 I5 hz kz => ?_
  obtain ⟨b, rfl, rfl, k5⟩ := dp_bool hz kz
  refine ⟨b, rfl, ?_⟩
  have sA := ((((s1.trans s2).trans s3).trans s4).trans s5)
  cases b with
  | true =>
    rw [if_pos rfl]
    refine ⟨C, F5, ρ2, _, hK, I5, k5.1 rfl, fun F6 u z ρ3 H6 s6 r6 k6 => ?_⟩
    obtain ⟨F7, f, s7, I7, hf, k7⟩ := r6.data k6
    exact hs' C F7 ρ3 σ H6 w u e f Q _ hK I7 (dp_mono ((s5.trans s6).trans s7) _ _ he) hf k7 fun F8 z8 d8 H8 s8 I8 h8 k8 =>
      q F8 z8 (.dat d8) ρ3 H8 (((sA.trans s6).trans s7).trans s8) ⟨I8, h8⟩ k8
  | false =>
    rw [if_neg (by simp)]
    exact q F5 _ (.dat (.bool false)) ρ2 H5 sA ⟨I5, .bl false⟩ (k5.2 rfl)
/-- a test by its value -/
theorem w_tst {T : ATE} {t : TE} (w : ∀ σ H Q, cE K T σ H Q → t σ H Q) : ∀ σ H Q, cT K (aTst T) σ H Q → tTest t σ H Q := fun σ H Q ⟨C, F, ρ, Kc, hK, I, h, q⟩ => by
  refine w σ H _ ⟨C, F, ρ, _, hK, I, h, fun F1 v x ρ1 H1 s1 r1 k1 => ?_⟩
  obtain ⟨F2, d, s2, I2, hd, k2⟩ := r1.data k1
  obtain ⟨b, rfl, rfl, k3⟩ := dp_bool hd k2
  exact ⟨b, rfl, q F2 b ρ1 H1 (s1.trans s2) I2 k3⟩
end
section
variable {X : Cx} {a b c e : Expr} {Ta Tb Tc : ATE} {Ua Ub : ATT} {s s' : S2} {r r' : R2} {pos : Pos}
theorem e_op {op : Operator} (ho : OpR X (binaryOp op) r) (hs : DR2 X.K r s) (ha : AE X a Ta) (hb : AE X b Tb) : AE X (.BinOp a op b pos) (aBin s Ta Tb) := pe_of (pe_op ho ha hb) (w_op hs)
theorem e_un {op : UnaryOp} {r : V → Hp → VK → Prop} {s : S1} (ho : UnR X (unaryOp op) r) (hs : DR1 X.K r s) (ha : AE X a Ta) : AE X (.UnaryOp op a pos) (aUn s Ta) := pe_of (pe_un ho ha) (w_un hs)
theorem e_cmp {op : CmpOp} (ho : OpR X (compareOp op) r) (hs : DR2 X.K r s) (ha : AE X a Ta) (hb : AE X b Tb) (hm : behindInMarks op b = false) : AE X (.Compare a [op] [b] pos) (aBin s Ta Tb) := pe_of (pe_cmpR ho ha hb hm) (w_op hs)
theorem t_cmp {op : CmpOp} (ho : OpR X (compareOp op) r) (hs : DR2 X.K r s) (ha : AE X a Ta) (hb : AE X b Tb) (hm : behindInMarks op b = false) : AT X (.Compare a [op] [b] pos) (aTst (aBin s Ta Tb)) := pt_of (pt_cmpR ho ha hb hm) (w_tst (w_op hs))
theorem e_chain {op op' : CmpOp} (ho : OpR X (compareOp op) r) (hs : DR2 X.K r s) (ho' : OpR X (compareOp op') r') (hs' : DR2 X.K r' s') (ha : AE X a Ta) (hb : AE X b Tb) (hc : AE X c Tc) (hm : lastMarks [op, op'] [b, c] = false := by with_unfolding_all rfl) :
    AE X (.Compare a [op, op'] [b, c] pos) (aChain s s' Ta Tb Tc) := pe_of (pe_chain ho ho' ha hb hc hm) (w_chain hs hs')
theorem t_chain {op op' : CmpOp} (ho : OpR X (compareOp op) r) (hs : DR2 X.K r s) (ho' : OpR X (compareOp op') r') (hs' : DR2 X.K r' s') (ha : AE X a Ta) (hb : AE X b Tb) (hc : AE X c Tc) (hm : lastMarks [op, op'] [b, c] = false := by with_unfolding_all rfl) :
    AT X (.Compare a [op, op'] [b, c] pos) (aTst (aChain s s' Ta Tb Tc)) := pt_of (pt_chain ho ho' ha hb hc hm) (w_tst (w_chain hs hs'))
theorem t_val (ha : AE X e Ta) (he : ∀ whole, isTrue e X.env whole = (do let v ← whole; standAt e.pos; holding [v] (truthy v)) := by intro _; rfl) : AT X e (aTst Ta) := pt_of (pt_val ha he) fun σ H Q h => w_tst (K := X.K) (fun _ _ _ z => z) σ H Q h

def aNot (U : ATT) : ATT := fun ρ K => U ρ fun b ρ' => K (!b) ρ'
def aAnd (U V : ATT) : ATT := fun ρ K => U ρ fun b ρ' => br b (V ρ' K) (K false ρ')
def aOr (U V : ATT) : ATT := fun ρ K => U ρ fun b ρ' => br b (K true ρ') (V ρ' K)
theorem t_not (ha : AT X a Ua) : AT X (.UnaryOp .Not a pos) (aNot Ua) := pt_of (pt_not ha) fun σ H Q ⟨C, F, ρ, Kc, hK, I, h, q⟩ => ⟨C, F, ρ, _, hK, I, h, fun F1 b ρ1 H1 s1 I1 k1 => q F1 (!b) ρ1 H1 s1 I1 k1⟩
theorem w_and {K : PySem.W.Frag} : ∀ σ H Q, cT K (aAnd Ua Ub) σ H Q → tAnd (cT K Ua) (cT K Ub) σ H Q := fun σ H Q ⟨C, F, ρ, Kc, hK, I, h, q⟩ => by
  refine ⟨C, F, ρ, _, hK, I, h, fun F1 b ρ1 H1 s1 I1 k1 => ?_⟩
  cases b with
  | true =>
    rw [if_pos rfl]
    exact ⟨C, F1, ρ1, _, hK, I1, k1.1 rfl, fun F2 b ρ2 H2 s2 I2 k2 => q F2 b ρ2 H2 (s1.trans s2) I2 k2⟩
  | false =>
    rw [if_neg (by simp)]
    exact q F1 false ρ1 H1 s1 I1 (k1.2 rfl)
theorem w_or {K : PySem.W.Frag} : ∀ σ H Q, cT K (aOr Ua Ub) σ H Q → tOr (cT K Ua) (cT K Ub) σ H Q := fun σ H Q ⟨C, F, ρ, Kc, hK, I, h, q⟩ => by
  refine ⟨C, F, ρ, _, hK, I, h, fun F1 b ρ1 H1 s1 I1 k1 => ?_⟩
  cases b with
  | false =>
    rw [if_neg (by simp)]
    exact ⟨C, F1, ρ1, _, hK, I1, k1.2 rfl, fun F2 b ρ2 H2 s2 I2 k2 => q F2 b ρ2 H2 (s1.trans s2) I2 k2⟩
  | true =>
    rw [if_pos rfl]
    exact q F1 true ρ1 H1 s1 I1 (k1.1 rfl)
theorem w_and1 (ha : AT X a Ua) : AW X (.BoolOp .And [a] pos) Ua := pw_and1 ha
theorem w_or1 (ha : AT X a Ua) : AW X (.BoolOp .Or [a] pos) Ua := pw_or1 ha
theorem w_andC {rest : List Expr} (ha : AT X a Ua) (hb : AW X (.BoolOp .And (b :: rest) pos) Ub) : AW X (.BoolOp .And (a :: b :: rest) pos) (aAnd Ua Ub) := pw_of (pw_and ha hb) w_and
theorem w_orC {rest : List Expr} (ha : AT X a Ua) (hb : AW X (.BoolOp .Or (b :: rest) pos) Ub) : AW X (.BoolOp .Or (a :: b :: rest) pos) (aOr Ua Ub) := pw_of (pw_or ha hb) w_or
theorem t_w (h : AW X e Ua) : AT X e Ua := PW.pt h

/-! values: names, constants -/
def aName (i : Nat) : ATE := fun ρ K => match ρ[i]? with
  | some (some (.dat d)) => K (.dat d) ρ
  | some (some (.own _ _)) => K (.ali i) ρ
  | _ => False
def aC (d : PyData) : ATE := fun ρ K => K (.dat d) ρ
theorem e_name {i : Nat} (h : PE X e (tVar i)) : AE X e (aName i) := pe_of h fun σ H Q ⟨C, F, ρ, Kc, hK, I, h, q⟩ => by
  unfold aName at h
  split at h
  · rename_i d hd
    obtain ⟨v, e1, e2⟩ := I.dat i d hd
    exact ⟨v, e1, q F v (.dat d) ρ H (Same.refl F) ⟨I, e2⟩ h⟩
  · rename_i t o ho
    obtain ⟨S, s1, _, _⟩ := I.own
    obtain ⟨a, e1, _⟩ := s1 i t o ho
    exact ⟨.ref a, e1, q F _ (.ali i) ρ H (Same.refl F) ⟨I, e1⟩ h⟩
  · exact h.elim
theorem e_c {v : V} {d : PyData} (h : PE X e (tC v)) (hd : ∀ K F, Dp K F v d) : AE X e (aC d) := pe_of h fun σ H Q ⟨C, F, ρ, Kc, hK, I, h, q⟩ => q F v (.dat d) ρ H (Same.refl F) ⟨I, hd _ _⟩ h
theorem e_int {i : Int} {j pos} : AE X (.Constant (.int i) j pos) (aC (.int i)) := e_c pe_int fun _ _ => .int i
theorem e_str {x : Str} {j pos} : AE X (.Constant (.str x) j pos) (aC (.str x)) := e_c pe_str fun _ _ => .str x
theorem e_bl {x : Bool} {j pos} : AE X (.Constant (.bool x) j pos) (aC (.bool x)) := e_c pe_bl fun _ _ => .bl x
theorem e_non {j pos} : AE X (.Constant .none j pos) (aC .none) := e_c pe_non fun _ _ => .non
/-- x if t else y -/
def aIfE (U : ATT) (Ta Tb : ATE) : ATE := fun ρ K => U ρ fun b ρ' => br b (Ta ρ' K) (Tb ρ' K)
theorem e_ifExp (hc : AT X c Ua) (ha : AE X a Ta) (hb : AE X b Tb) : AE X (.IfExp c a b pos) (aIfE Ua Ta Tb) := pe_of (pe_ifExp hc ha hb) fun σ H Q ⟨C, F, ρ, Kc, hK, I, h, q⟩ => by
  refine ⟨C, F, ρ, _, hK, I, h, fun F1 b ρ1 H1 s1 I1 k1 => ?_⟩
  cases b with
  | true =>
    rw [if_pos rfl]
    exact ⟨C, F1, ρ1, _, hK, I1, k1.1 rfl, fun F2 v x ρ2 H2 s2 r2 k2 => q F2 v x ρ2 H2 (s1.trans s2) r2 k2⟩
  | false =>
    rw [if_neg (by simp)]
    exact ⟨C, F1, ρ1, _, hK, I1, k1.2 rfl, fun F2 v x ρ2 H2 s2 r2 k2 => q F2 v x ρ2 H2 (s1.trans s2) r2 k2⟩
/-- and, or, not as values, all but the last truth values -/
def aAndV (Ta Tb : ATE) : ATE := fun ρ K => Ta ρ fun x ρ1 => dd x fun d => bb d fun b => br b (Tb ρ1 K) (K (.dat (.bool false)) ρ1)
def aOrV (Ta Tb : ATE) : ATE := fun ρ K => Ta ρ fun x ρ1 => dd x fun d => bb d fun b => br b (K (.dat (.bool true)) ρ1) (Tb ρ1 K)
def aNotV (Ta : ATE) : ATE := fun ρ K => Ta ρ fun x ρ1 => dd x fun d => bb d fun b => K (.dat (.bool !b)) ρ1
theorem e_one {op} (h : AE X a Ta) : AE X (.BoolOp op [a] pos) Ta := pe_one h
theorem e_and {rest : List Expr} (ha : AE X a Ta) (hb : AE X (.BoolOp .And (b :: rest) pos) Tb) : AE X (.BoolOp .And (a :: b :: rest) pos) (aAndV Ta Tb) := pe_of (pe_and ha hb) fun σ H Q ⟨C, F, ρ, Kc, hK, I, h, q⟩ => by
  refine ⟨C, F, ρ, _, hK, I, h, fun F1 v x ρ1 H1 s1 r1 k1 => ?_⟩
  obtain ⟨F2, d, s2, I2, hd, k2⟩ := r1.data k1
  obtain ⟨k, rfl, rfl, k3⟩ := dp_bool hd k2
  refine ⟨k, rfl, ?_⟩
  cases k with
  | true =>
    rw [if_pos rfl]
    exact ⟨C, F2, ρ1, _, hK, I2, k3.1 rfl, fun F3 v x ρ2 H2 s3 r3 k3 => q F3 v x ρ2 H2 ((s1.trans s2).trans s3) r3 k3⟩
  | false =>
    rw [if_neg (by simp)]
    exact q F2 _ (.dat (.bool false)) ρ1 H1 (s1.trans s2) ⟨I2, .bl false⟩ (k3.2 rfl)
theorem e_or {rest : List Expr} (ha : AE X a Ta) (hb : AE X (.BoolOp .Or (b :: rest) pos) Tb) : AE X (.BoolOp .Or (a :: b :: rest) pos) (aOrV Ta Tb) := pe_of (pe_or ha hb) fun σ H Q ⟨C, F, ρ, Kc, hK, I, h, q⟩ => by
  refine ⟨C, F, ρ, _, hK, I, h, fun F1 v x ρ1 H1 s1 r1 k1 => ?_⟩
  obtain ⟨F2, d, s2, I2, hd, k2⟩ := r1.data k1
  obtain ⟨k, rfl, rfl, k3⟩ := dp_bool hd k2
  refine ⟨k, rfl, ?_⟩
  cases k with
  | false =>
    rw [if_neg (by simp)]
    exact ⟨C, F2, ρ1, _, hK, I2, k3.2 rfl, fun F3 v x ρ2 H2 s3 r3 k3 => q F3 v x ρ2 H2 ((s1.trans s2).trans s3) r3 k3⟩
  | true =>
    rw [if_pos rfl]
    exact q F2 _ (.dat (.bool true)) ρ1 H1 (s1.trans s2) ⟨I2, .bl true⟩ (k3.1 rfl)
theorem e_not (ha : AE X a Ta) : AE X (.UnaryOp .Not a pos) (aNotV Ta) := pe_of (pe_not ha) fun σ H Q ⟨C, F, ρ, Kc, hK, I, h, q⟩ => by
  refine ⟨C, F, ρ, _, hK, I, h, fun F1 v x ρ1 H1 s1 r1 k1 => ?_⟩
  obtain ⟨F2, d, s2, I2, hd, k2⟩ := r1.data k1
  obtain ⟨k, rfl, rfl, k3⟩ := dp_bool hd k2
  exact ⟨k, rfl, q F2 _ (.dat (.bool !k)) ρ1 H1 (s1.trans s2) ⟨I2, .bl _⟩ k3⟩

/-! ### arguments, displays -/
def aNil : ATA := fun ρ K => K [] ρ
/-- an argument: data, or the owned object of a slot -/
def arg : AV → (AV → Prop) → Prop
  | .own _ (.lst ds), k => k (.dat (.list ds))
  | .own _ (.dls _), _ => False
  | x, k => k x
def aCons (Ta : ATE) (Tr : ATA) : ATA := fun ρ K => Ta ρ fun x ρ1 => arg x fun y => Tr ρ1 fun xs ρ2 => K (y :: xs) ρ2
theorem Res.arg {C : Fx} {F : Hp} {ρ : AS} {σ : St} {H : Hp} {v : V} {x : AV} {k : AV → Prop} (h : Res C F ρ σ H v x) (hk : arg x k) : ∃ F' y, Same F F' ∧ SOk C F' ρ σ H ∧ ArgOk C F' σ v y ∧ k y := by
  cases x with
  | dat d => exact ⟨F, .dat d, Same.refl F, h.1, h.2, hk⟩
  | own t o =>
    cases o with
    | lst ds =>
      obtain ⟨F', s, I, hd⟩ := SOk.freeze h
      exact ⟨F', .dat (.list ds), s, I, hd, hk⟩
    | dls kvs => exact hk.elim
  | ali i => exact ⟨F, .ali i, Same.refl F, h.1, h.2, hk⟩
theorem ArgOk.mono {C : Fx} {F F' : Hp} {σ : St} {v : V} (e : Same F F') : ∀ {y : AV}, ArgOk C F σ v y → ArgOk C F' σ v y
  | .dat d, h => dp_mono e d v h
  | .own _ _, h => h
  | .ali _, h => h
theorem x_nil : AA X [] aNil := pa_of pa_nil fun σ H Q ⟨C, F, ρ, Kc, hK, I, h, q⟩ => q F [] [] ρ H (Same.refl F) I .nil h
theorem x_cons {es : List Expr} {Tr : ATA} (ha : AE X e Ta) (hr : AA X es Tr) (hs : starEach (e :: es) X.env = (false, eval e X.env) :: starEach es X.env := by rfl) : AA X (e :: es) (aCons Ta Tr) := pa_of (pa_cons ha hr hs) fun σ H Q ⟨C, F, ρ, Kc, hK, I, h, q⟩ => by
  refine ⟨C, F, ρ, _, hK, I, h, fun F1 v x ρ1 H1 s1 r1 k1 => ?_⟩
  obtain ⟨F2, y, s2, I2, hy, k2⟩ := r1.arg k1
  exact ⟨C, F2, ρ1, _, hK, I2, k2, fun F3 vs xs ρ2 H2 s3 I3 h3 k3 => q F3 (v :: vs) (y :: xs) ρ2 H2 ((s1.trans s2).trans s3) I3 (.cons (hy.mono s3) h3) k3⟩
/-- all arguments data -/
def das : List AV → (List PyData → Prop) → Prop
  | [], k => k []
  | .dat d :: r, k => das r fun ds => k (d :: ds)
  | _ :: _, _ => False
theorem das_ok {C : Fx} {F : Hp} {σ : St} : ∀ {xs : List AV} {vs : List V} {k : List PyData → Prop}, ArgsOk C F σ vs xs → das xs k → ∃ ds, DpAll C.K F vs ds ∧ k ds
  | [], _, _, .nil, h => ⟨[], .nil, h⟩
  | .dat d :: r, _, k, .cons h1 h2, h => by
    obtain ⟨ds, g1, g2⟩ := das_ok h2 h
    exact ⟨d :: ds, .cons h1 g1, g2⟩
  | .own _ _ :: _, _, _, .cons _ _, h => h.elim
  | .ali _ :: _, _, _, .cons _ _, h => h.elim
def aTup (Ta : ATA) : ATE := fun ρ K => Ta ρ fun xs ρ' => das xs fun ds => ds.length ≤ sizeLine ∧ K (.dat (.tuple ds)) ρ'
def aLst (Ta : ATA) : ATE := fun ρ K => Ta ρ fun xs ρ' => das xs fun ds => ds.length ≤ sizeLine ∧ K (.own none (.lst ds)) ρ'
theorem e_tup {es : List Expr} {Tr : ATA} {x1} (h : AA X es Tr) : AE X (.Tuple es x1 pos) (aTup Tr) := pe_of (pe_tup h) fun σ H Q ⟨C, F, ρ, Kc, hK, I, h, q⟩ => by
  refine ⟨C, F, ρ, _, hK, I, h, fun F1 vs xs ρ1 H1 s1 I1 h1 k1 => ?_⟩
  obtain ⟨ds, hd, hl, k2⟩ := das_ok h1 k1
  refine ⟨by rw [dpa_len hd]; exact hl, fun p hp => ?_⟩
  have s2 : Same F1 (upd F1 p (.tup vs)) := same_upd' (I1.fnone hp)
  exact q _ (.ref p) (.dat (.tuple ds)) ρ1 _ (s1.trans s2) ⟨I1.imm hp, dp_tup upd_same (dpa_mono s2 _ _ hd)⟩ k2
theorem e_lst {es : List Expr} {Tr : ATA} (h : AA X es Tr) : AE X (.List es pos) (aLst Tr) := pe_of (pe_lst h) fun σ H Q ⟨C, F, ρ, Kc, hK, I, h, q⟩ => by
  refine ⟨C, F, ρ, _, hK, I, h, fun F1 vs xs ρ1 H1 s1 I1 h1 k1 => ?_⟩
  obtain ⟨ds, hd, hl, k2⟩ := das_ok h1 k1
  refine ⟨by rw [dpa_len hd]; exact hl, fun p hp => ?_⟩
  exact q F1 (.ref p) (.own none (.lst ds)) ρ1 _ s1 (I1.newOwn hp hd) k2
end
end Ab

set_option maxHeartbeats 4000000
/-! Ab3: sequences: what a value contains, calls of built-ins on them, operators by data. -/
namespace Ab
open PySem PySem.Spec PyProof.Rows L2

/-- a list (true) or a tuple that is read -/
def Seq (K : PySem.W.Frag) (H : Hp) (b : Bool) (a : Addr) (vs : List V) : Prop := match b with
  | true => SqL K H a vs
  | false => SqT K H a vs
theorem Seq.mono {K : PySem.W.Frag} {H H' : Hp} {a : Addr} {vs : List V} (e : Same H H') : ∀ {b : Bool}, Seq K H b a vs → Seq K H' b a vs
  | true, h => e.seq h
  | false, h => same_t e h
def contS : Option (Option AV) → (Bool → List PyData → Prop) → Prop
  | some (some (.own _ (.lst ds))), k => k true ds
  | _, _ => False
/-- what a value contains: a list (true) or a tuple -/
def cont (ρ : AS) : AV → (Bool → List PyData → Prop) → Prop
  | .dat (.list ds), k => k true ds
  | .dat (.tuple ds), k => k false ds
  | .own _ (.lst ds), k => k true ds
  | .ali i, k => contS ρ[i]? k
  | _, _ => False
theorem ArgOk.cont {C : Fx} {F : Hp} {ρ : AS} {σ : St} {H : Hp} {v : V} {y : AV} {k : Bool → List PyData → Prop} (I : SOk C F ρ σ H) (h : ArgOk C F σ v y) (hk : cont ρ y k) : ∃ a vs b ds, v = .ref a ∧ Seq C.K H b a vs ∧ (b = false → SqT C.K F a vs) ∧ DpAll C.K F vs ds ∧ k b ds := by
  cases y with
  | dat d =>
    have h : Dp C.K F v d := h
    cases h with
    | lst hs ha => exact ⟨_, _, true, _, rfl, I.fz.seq hs, (fun z => nomatch z), ha, hk⟩
    | tup hs ha => exact ⟨_, _, false, _, rfl, same_t I.fz hs, (fun _ => hs), ha, hk⟩
    | _ => exact hk.elim
  | own t o => exact h.elim
  | ali i =>
    have h : σ[i]? = some (some v) := h
    have hk : contS ρ[i]? k := hk
    generalize hi : ρ[i]? = oi at hk
    unfold contS at hk
    split at hk
    · skip
      obtain ⟨a, vs, e1, e2, e3⟩ := I.at_own hi
      rw [h] at e1
      have ev : v = .ref a := by simpa using e1
      subst ev
      exact ⟨a, vs, true, _, rfl, .inl (.inl e2), (fun z => nomatch z), e3, hk⟩
    · exact hk.elim
/-- reads as data -/
theorem seq_reads {X : Cx} {pins : List (Addr × Obj)} {σ : St} {H F : Hp} {s : Shared} {b : Bool} {a : Addr} {vs : List V} {ds : List PyData} (I : Inv X pins σ H s) (h : Seq X.K H b a vs) (hf : Same F H) (ha : DpAll X.K F vs ds) :
    ∃ its as, Vals vs its ∧ ReadsAll s.heap its ds as ∧ (if b = true then s.heap.IsList a its.toArray else s.heap.IsTuple a its.toArray) := by
  cases b with
  | true =>
    obtain ⟨its, r, p, _⟩ := I.list h
    obtain ⟨as, q⟩ := Dp.readsAll I ds vs its (dpa_mono hf _ _ ha) r
    exact ⟨its, as, r, q, by rw [if_pos rfl]; exact p.isList⟩
  | false =>
    obtain ⟨its, r, p, _⟩ := I.tuple h
    obtain ⟨as, q⟩ := Dp.readsAll I ds vs its (dpa_mono hf _ _ ha) r
    refine ⟨its, as, r, q, ?_⟩
    rw [if_neg (by simp)]
    obtain ⟨o, h1, h2, n, h3⟩ := p
    exact ⟨o, h1, h2, n, h3⟩

/-! ### a call with one sequence -/
abbrev SC := Bool → List PyData → (AV → Prop) → Prop
def DC (K : PySem.W.Frag) (r : List V → Hp → VK → Prop) (s : SC) : Prop := ∀ (C : Fx) (F : Hp) (ρ : AS) (σ : St) (H : Hp) (a : Addr) (vs : List V) (b : Bool) (ds : List PyData) (Q : VK) (Kd : AV → Prop), C.K = K → SOk C F ρ σ H → Seq K H b a vs → (b = false → SqT K F a vs) → DpAll K F vs ds → s b ds Kd →
  (∀ F' z x H', Same F F' → Res C F' ρ σ H' z x → Kd x → Q z H') → r [.ref a] H Q
def aCall1 (s : SC) (Ta : ATE) : ATE := fun ρ K => Ta ρ fun x ρ1 => arg x fun y => cont ρ1 y fun b ds => s b ds fun z => K z ρ1
theorem w_call1 {K : PySem.W.Frag} {r : List V → Hp → VK → Prop} {s : SC} {Ta : ATE} (hs : DC K r s) : ∀ σ H Q, cE K (aCall1 s Ta) σ H Q → tCB r (tCons (cE K Ta) tNil) σ H Q := fun σ H Q ⟨C, F, ρ, Kc, hK, I, h, q⟩ => by
  refine ⟨C, F, ρ, _, hK, I, h, fun F1 v x ρ1 H1 s1 r1 k1 => ?_⟩
  obtain ⟨F2, y, s2, I2, hy, k2⟩ := r1.arg k1
  obtain ⟨a, vs, b, ds, rfl, h3, h3', h4, k3⟩ := hy.cont I2 k2
  subst hK
  exact hs C F2 ρ1 σ H1 a vs b ds Q _ rfl I2 h3 h3' h4 k3 fun F3 z x H3 s3 r3 k4 => q F3 z x ρ1 H3 ((s1.trans s2).trans s3) r3 k4
section
variable {X : Cx} {e : Expr} {Ta : ATE} {s : SC} {r : List V → Hp → VK → Prop} {x : Str} {id T : String} {p pos : Pos}
theorem e_callB (hc : CallR X (.builtin id) r) (hs : DC X.K r s) (hg : Gl X x) (hm : X.mg x = none) (hv : bootBuiltins x = some (.builtin id)) (ha : AE X e Ta) (hn : x ≠ "__name__" := by decide) (hdb : (x == ("__debug__" : Str)) = false := by decide)
    (hst : starEach [e] X.env = (false, eval e X.env) :: starEach [] X.env := by rfl) : AE X (.Call (.Name x p) [e] [] pos) (aCall1 s Ta) :=
  pe_of (pe_callB hc hg hm hv (pa_cons ha pa_nil hst) hn hdb hst rfl) (w_call1 hs)
theorem e_callTy (hc : CallR X (.type T) r) (hs : DC X.K r s) (hg : Gl X x) (hm : X.mg x = none) (hv : bootBuiltins x = some (.type T)) (ha : AE X e Ta) (hn : x ≠ "__name__" := by decide) (hdb : (x == ("__debug__" : Str)) = false := by decide)
    (hst : starEach [e] X.env = (false, eval e X.env) :: starEach [] X.env := by rfl) : AE X (.Call (.Name x p) [e] [] pos) (aCall1 s Ta) :=
  pe_of (pe_callTy hc hg hm hv (pa_cons ha pa_nil hst) hn hdb hst rfl) (w_call1 hs)
end
/-- a call with one data argument, by data -/
def aCallD (s : S1) (Ta : ATE) : ATE := fun ρ K => Ta ρ fun x ρ1 => dd x fun d => s d fun z => K (.dat z) ρ1
theorem w_callD {K : PySem.W.Frag} {r : List V → Hp → VK → Prop} {s : S1} {Ta : ATE} (hs : DR1 K (fun x H Q => r [x] H Q) s) : ∀ σ H Q, cE K (aCallD s Ta) σ H Q → tCB r (tCons (cE K Ta) tNil) σ H Q := fun σ H Q ⟨C, F, ρ, Kc, hK, I, h, q⟩ => by
  refine ⟨C, F, ρ, _, hK, I, h, fun F1 v x ρ1 H1 s1 r1 k1 => ?_⟩
  obtain ⟨F2, d, s2, I2, hd, k2⟩ := r1.data k1
  exact hs C F2 ρ1 σ H1 v d Q _ hK I2 hd k2 fun F5 z dz H5 s5 I5 hz kz => q F5 z (.dat dz) ρ1 H5 ((s1.trans s2).trans s5) ⟨I5, hz⟩ kz
section
variable {X : Cx} {e : Expr} {Ta : ATE} {s : S1} {r : List V → Hp → VK → Prop} {x : Str} {id T : String} {p pos : Pos}
theorem e_callBD (hc : CallR X (.builtin id) r) (hs : DR1 X.K (fun x H Q => r [x] H Q) s) (hg : Gl X x) (hm : X.mg x = none) (hv : bootBuiltins x = some (.builtin id)) (ha : AE X e Ta) (hn : x ≠ "__name__" := by decide) (hdb : (x == ("__debug__" : Str)) = false := by decide)
    (hst : starEach [e] X.env = (false, eval e X.env) :: starEach [] X.env := by rfl) : AE X (.Call (.Name x p) [e] [] pos) (aCallD s Ta) :=
  pe_of (pe_callB hc hg hm hv (pa_cons ha pa_nil hst) hn hdb hst rfl) (w_callD hs)
theorem e_callTyD (hc : CallR X (.type T) r) (hs : DR1 X.K (fun x H Q => r [x] H Q) s) (hg : Gl X x) (hm : X.mg x = none) (hv : bootBuiltins x = some (.type T)) (ha : AE X e Ta) (hn : x ≠ "__name__" := by decide) (hdb : (x == ("__debug__" : Str)) = false := by decide)
    (hst : starEach [e] X.env = (false, eval e X.env) :: starEach [] X.env := by rfl) : AE X (.Call (.Name x p) [e] [] pos) (aCallD s Ta) :=
  pe_of (pe_callTy hc hg hm hv (pa_cons ha pa_nil hst) hn hdb hst rfl) (w_callD hs)
end

/-! ### what data decode to -/
def bools : List PyData → Option (List Bool)
  | [] => some []
  | .bool b :: r => (bools r).map (b :: ·)
  | _ :: _ => none
def intsD : List PyData → Option (List Int)
  | [] => some []
  | .int b :: r => (intsD r).map (b :: ·)
  | _ :: _ => none
def got {α : Type} : Option α → (α → Prop) → Prop
  | some x, k => k x
  | none, _ => False
theorem bools_ok {K : PySem.W.Frag} {F : Hp} : ∀ {ds : List PyData} {bs : List Bool} {vs : List V}, bools ds = some bs → DpAll K F vs ds → vs = bs.map V.bl ∧ ds = bs.map PyData.bool
  | [], bs, _, e, h => by cases h; cases e; exact ⟨rfl, rfl⟩
  | .bool b :: r, bs, _, e, h => by
    cases h with
    | cons h1 h2 =>
      unfold bools at e
      obtain ⟨q, e1, rfl⟩ := Option.map_eq_some_iff.mp e
      obtain ⟨rfl, rfl⟩ := bools_ok e1 h2
      cases h1
      exact ⟨rfl, rfl⟩
  | .none :: r, _, _, e, _ => by cases e
  | .int _ :: r, _, _, e, _ => by cases e
  | .str _ :: r, _, _, e, _ => by cases e
  | .list _ :: r, _, _, e, _ => by cases e
  | .tuple _ :: r, _, _, e, _ => by cases e
  | .dict _ :: r, _, _, e, _ => by cases e
theorem intsD_ok {K : PySem.W.Frag} {F : Hp} : ∀ {ds : List PyData} {bs : List Int} {vs : List V}, intsD ds = some bs → DpAll K F vs ds → vs = bs.map V.int ∧ ds = bs.map PyData.int
  | [], bs, _, e, h => by cases h; cases e; exact ⟨rfl, rfl⟩
  | .int b :: r, bs, _, e, h => by
    cases h with
    | cons h1 h2 =>
      unfold intsD at e
      obtain ⟨q, e1, rfl⟩ := Option.map_eq_some_iff.mp e
      obtain ⟨rfl, rfl⟩ := intsD_ok e1 h2
      cases h1
      exact ⟨rfl, rfl⟩
  | .none :: r, _, _, e, _ => by cases e
  | .bool _ :: r, _, _, e, _ => by cases e
  | .str _ :: r, _, _, e, _ => by cases e
  | .list _ :: r, _, _, e, _ => by cases e
  | .tuple _ :: r, _, _, e, _ => by cases e
  | .dict _ :: r, _, _, e, _ => by cases e
@[simp] theorem bools_map {α : Type} (f : α → Bool) : ∀ xs : List α, bools (xs.map fun x => PyData.bool (f x)) = some (xs.map f)
  | [] => rfl
  | x :: xs => by simp [bools, bools_map f xs]
@[simp] theorem intsD_map {α : Type} (f : α → Int) : ∀ xs : List α, intsD (xs.map fun x => PyData.int (f x)) = some (xs.map f)
  | [] => rfl
  | x :: xs => by simp [intsD, intsD_map f xs]
@[simp] theorem intsD_map' : ∀ xs : List Int, intsD (xs.map PyData.int) = some xs
  | [] => rfl
  | x :: xs => by simp [intsD, intsD_map' xs]
theorem got_ok {α : Type} {o : Option α} {k : α → Prop} (h : got o k) : ∃ x, o = some x ∧ k x := by
  cases o with
  | none => exact h.elim
  | some x => exact ⟨x, rfl, h⟩

/-! ### the built-ins -/
section
variable {X : Cx}
def sLen : SC := fun _ ds k => k (.dat (.int ds.length))
theorem dc_len {K : PySem.W.Frag} : DC K (fun xs H Q => ∃ p ys, xs = [.ref p] ∧ (SqL K H p ys ∨ SqT K H p ys) ∧ Q (.int ys.length) H) sLen := fun C F ρ σ H a vs b ds Q Kd hK I hs hs' ha hk q => by
  refine ⟨a, vs, rfl, ?_, ?_⟩
  · cases b with
    | true => exact .inl hs
    | false => exact .inr hs
  · rw [dpa_len ha]
    exact q F _ (.dat _) H (Same.refl F) ⟨I, .int _⟩ hk
def sAny : SC := fun b ds k => b = true ∧ got (bools ds) fun bs => k (.dat (.bool (bs.any id)))
def sAll : SC := fun b ds k => b = true ∧ got (bools ds) fun bs => k (.dat (.bool (bs.all id)))
theorem dc_any {K : PySem.W.Frag} : DC K (rAny K) sAny := fun C F ρ σ H a vs b ds Q Kd hK I hs hs' ha ⟨hb, hk⟩ q => by
  obtain ⟨bs, e, hk2⟩ := got_ok hk
  obtain ⟨rfl, rfl⟩ := bools_ok e ha
  subst hb
  exact ⟨a, bs, rfl, hs, q F _ (.dat _) H (Same.refl F) ⟨I, .bl _⟩ hk2⟩
theorem dc_all {K : PySem.W.Frag} : DC K (rAll K) sAll := fun C F ρ σ H a vs b ds Q Kd hK I hs hs' ha ⟨hb, hk⟩ q => by
  obtain ⟨bs, e, hk2⟩ := got_ok hk
  obtain ⟨rfl, rfl⟩ := bools_ok e ha
  subst hb
  exact ⟨a, bs, rfl, hs, q F _ (.dat _) H (Same.refl F) ⟨I, .bl _⟩ hk2⟩
/-- sum of ints, a list or a tuple -/
def rSum2 (K : PySem.W.Frag) : List V → Hp → VK → Prop := fun vs H Q => ∃ (a : Addr) (b : Bool) (ns : List Int), vs = [V.ref a] ∧ Seq K H b a (ns.map V.int) ∧ Q (.int ns.sum) H
theorem cr_sum2 (hc : X.calm = true) : CallR X (.builtin "sum") (rSum2 X.K) := by
  intro pins s σ H vs us Q I r h
  obtain ⟨a, b, ns, rfl, hs, q⟩ := h
  cases b with
  | true => exact cr_sum hc pins s σ H _ us Q I r ⟨a, ns, rfl, hs, q⟩
  | false =>
    obtain ⟨its, rv, hl, _⟩ := I.tuple hs
    rw [Vals.ref1 r]
    have hi := rv.ints
    obtain ⟨xs, e⟩ := hi.allInts.items
    have hn : numsOf (intItems xs).toList = ns := by rw [← e]; exact hi.numsOf
    rw [nums_intItems] at hn
    rw [e] at hl
    have hl : s.heap.IsTuple a (intItems xs) := by
      obtain ⟨o, h1, h2, n, h3⟩ := hl
      exact ⟨o, h1, h2, n, h3⟩
    have ha : a < s.heap.objs.size := by obtain ⟨_, e, _⟩ := hl; exact Heap.lt_size e
    refine PySem.call_sum_walkG (wpAny_pyIter_tuple hl ⟨_, _, _, _, _, _, numAt xs, rfl, Walks.tuple (A := X.A.in1) (I.ok.hd hc) _ a (Nat.ne_of_lt ha) (intItems xs), ⟨⟨_, Heap.get?_push_size _ rfl, rfl, rfl⟩, hl.push _⟩, fun b hb => ?_, (fun _ _ => intItems_at), fun h' tk t' hk => ?_⟩)
    · show b < (s.heap.push _).objs.size
      rw [Heap.size_push]
      rcases List.mem_cons.mp hb with rfl | hb
      · exact Nat.lt_succ_self _
      · rcases List.mem_cons.mp hb with rfl | hb
        · exact Nat.lt_succ_of_lt ha
        · cases hb
    · refine ⟨.int ns.sum, H, I.kept fun b o eo => hk b o (fun hmem => ?_) (Heap.get?_push_of_some _ eo), ⟨t', ?_⟩, q⟩
      · exact absurd (Heap.lt_size eo) ((List.mem_singleton.mp hmem) ▸ Nat.lt_irrefl _)
      · show Value.int (preSum (numAt xs) (intItems xs).size) t' = .int ns.sum t'
        rw [show (intItems xs).size = xs.size by simp [intItems], preSum_eq, List.take_of_length_le (by simp), hn]
def sSum : SC := fun _ ds k => got (intsD ds) fun ns => k (.dat (.int ns.sum))
theorem dc_sum {K : PySem.W.Frag} : DC K (rSum2 K) sSum := fun C F ρ σ H a vs b ds Q Kd hK I hs hs' ha hk q => by
  obtain ⟨ns, e, hk2⟩ := got_ok hk
  obtain ⟨rfl, rfl⟩ := intsD_ok e ha
  exact ⟨a, b, ns, rfl, hs, q F _ (.dat _) H (Same.refl F) ⟨I, .int _⟩ hk2⟩
/-- list(xs), tuple(xs) -/
def sList : SC := fun _ ds k => k (.own none (.lst ds))
theorem dc_list {K : PySem.W.Frag} : DC K (fun xs H Q => ∃ p ys, xs = [.ref p] ∧ (SqL K H p ys ∨ SqT K H p ys) ∧ ∀ l, H l = none → Q (.ref l) (upd H l (.lst ys))) sList := fun C F ρ σ H a vs b ds Q Kd hK I hs hs' ha hk q => by
  refine ⟨a, vs, rfl, ?_, fun l hl => ?_⟩
  · cases b with
    | true => exact .inl hs
    | false => exact .inr hs
  · subst hK
    exact q F _ (.own none (.lst ds)) _ (Same.refl F) (I.newOwn hl ha) hk
def sTuple : SC := fun _ ds k => k (.dat (.tuple ds))
theorem dc_tuple {K : PySem.W.Frag} : DC K (fun xs H Q => ∃ p ys, xs = [.ref p] ∧ ((SqL K H p ys ∧ ∀ l, H l = none → Q (.ref l) (upd H l (.tup ys))) ∨ (SqT K H p ys ∧ Q (.ref p) H))) sTuple := fun C F ρ σ H a vs b ds Q Kd hK I hs hs' ha hk q => by
  refine ⟨a, vs, rfl, ?_⟩
  subst hK
  cases b with
  | true =>
    refine .inl ⟨hs, fun l hl => ?_⟩
    have s2 : Same F (upd F l (.tup vs)) := same_upd' (I.fnone hl)
    exact q _ _ (.dat (.tuple ds)) _ s2 ⟨I.imm hl, dp_tup upd_same (dpa_mono s2 _ _ ha)⟩ hk
  | false => exact .inr ⟨hs, q F _ (.dat (.tuple ds)) H (Same.refl F) ⟨I, .tup (hs' rfl) ha⟩ hk⟩
end
end Ab

set_option maxHeartbeats 4000000
/-! Ab4: sorted, min, max, ==, in, <, arithmetic, subscripts, by data. -/
namespace Ab
open PySem PySem.Spec PyProof.Rows L2
open PySem.W (EachIs dataLe Sortable AllAlike)

theorem dpa_mem {K : PySem.W.Frag} {F : Hp} : ∀ {ds : List PyData} {vs : List V}, DpAll K F vs ds → ∀ p ∈ vs.zip ds, Dp K F p.1 p.2
  | [], _, h => by cases h; intro p hp; simp at hp
  | d :: ds, _, h => by
    cases h with
    | cons h1 h2 =>
      intro p hp
      rw [List.zip_cons_cons] at hp
      rcases List.mem_cons.mp hp with rfl | hp
      · exact h1
      · exact dpa_mem h2 p hp
theorem dpa_of_mem {K : PySem.W.Frag} {F : Hp} : ∀ {zs : List (V × PyData)}, (∀ p ∈ zs, Dp K F p.1 p.2) → DpAll K F (zs.map Prod.fst) (zs.map Prod.snd)
  | [], _ => .nil
  | z :: zs, h => .cons (h z List.mem_cons_self) (dpa_of_mem fun p hp => h p (List.mem_cons_of_mem _ hp))
theorem zip_snd : ∀ {vs : List V} {ds : List PyData}, vs.length = ds.length → (vs.zip ds).map Prod.snd = ds
  | [], [], _ => rfl
  | v :: vs, d :: ds, h => by rw [List.zip_cons_cons, List.map_cons, zip_snd (by simpa using h)]
theorem each_rel : ∀ {vs : List V} {its : List Value} {ds : List PyData}, Vals vs its → vs.length = ds.length → EachIs (fun v (b : V × PyData) => RelV b.1 v) its (vs.zip ds)
  | [], _, [], .nil, _ => .nil
  | [], _, _ :: _, _, h => by simp at h
  | _ :: _, _, [], _, h => by simp at h
  | v :: vs, _, d :: ds, .cons r t, h => .cons r (each_rel t (by simpa using h))
theorem each_read {h : Heap} : ∀ {vs : List V} {its : List Value} {ds : List PyData} {as : List Addr}, Vals vs its → ReadsAll h its ds as → EachIs (fun v (b : V × PyData) => ∃ as, Reads h v b.2 as) its (vs.zip ds)
  | [], _, [], _, .nil, .nil => .nil
  | [], _, _ :: _, _, r, q => by cases r; cases q
  | _ :: _, _, [], _, r, q => by cases q; cases r
  | v :: vs, _, d :: ds, _, .cons r t, .cons q u => .cons ⟨_, q⟩ (each_read t u)
theorem vals_each : ∀ {out : List Value} {zs : List (V × PyData)}, EachIs (fun v (b : V × PyData) => RelV b.1 v) out zs → Vals (zs.map Prod.fst) out
  | _, _, .nil => .nil
  | _, _, .cons r t => .cons r (vals_each t)

section
variable {X : Cx}
def rSortD (K : PySem.W.Frag) : List V → Hp → VK → Prop := fun vs H Q => ∃ (a : Addr) (xs : List V) (ds : List PyData), vs = [V.ref a] ∧ SqL K H a xs ∧ DpAll K H xs ds ∧ AllAlike ds ∧ Sortable ds ∧ (∀ d ∈ ds, d.depth ≤ 50) ∧
  ∀ p, H p = none → Q (.ref p) (upd H p (.lst (((xs.zip ds).mergeSort (dataLe false Prod.snd)).map Prod.fst)))
theorem cr_sortD (hu : X.A.units + 64 < cLine) : CallR X (.builtin "sorted") (rSortD X.K) := by
  intro pins s σ H vs us Q I r h
  obtain ⟨a, xs, ds, rfl, hs, hd, h1, h2, h3, q⟩ := h
  obtain ⟨its, rv, hl, hz⟩ := I.list hs
  rw [Vals.ref1 r]
  obtain ⟨as, hr⟩ := Dp.readsAll I ds xs its hd rv
  have hlen := dpa_len hd
  have hmap : (xs.zip ds).map Prod.snd = ds := zip_snd hlen
  have hzl : (xs.zip ds).length = xs.length := by rw [List.length_zip, ← hlen, Nat.min_self]
  refine PySem.W.sorted_data (R := fun v (b : V × PyData) => RelV b.1 v) (enc := Prod.snd) (bs := xs.zip ds) hl.isList (each_rel rv hlen) (each_read rv hr) (by rw [hmap]; exact h1) (by rw [hmap]; exact h2) (by rw [hzl]; exact hz) (fun b hb => ?_) fun out ho he => ?_
  · have : b.2 ∈ ds := by rw [← hmap]; exact List.mem_map.mpr ⟨b, hb, rfl⟩
    have := h3 _ this
    omega
  · obtain ⟨ep, he'⟩ := PyProof.Rows.sortedAll_at s.heap its out.toArray
    have hl2 : (((xs.zip ds).mergeSort (dataLe false Prod.snd)).map Prod.fst).length ≤ sizeLine := by
      rw [List.length_map, List.length_mergeSort, hzl]
      exact hz
    exact ⟨.ref _, upd H (s.heap.objs.size + 1) (.lst _), I.laid (t' := s.toks) (fun _ _ => PyProof.Rows.sortedAll_old) (Nat.le_succ _) ⟨hl2, out, ep, vals_each he, he'⟩, rfl, q _ (I.hok.fresh (Nat.le_succ _))⟩
def sSorted : SC := fun b ds k => b = true ∧ AllAlike ds ∧ Sortable ds ∧ (∀ d ∈ ds, d.depth ≤ 50) ∧ k (.own none (.lst (ds.mergeSort (dataLe false id))))
theorem sorted_pairs {K : PySem.W.Frag} {F : Hp} {vs : List V} {ds : List PyData} (h : DpAll K F vs ds) : DpAll K F (((vs.zip ds).mergeSort (dataLe false Prod.snd)).map Prod.fst) (ds.mergeSort (dataLe false id)) := by
  have e : ((vs.zip ds).mergeSort (dataLe false Prod.snd)).map Prod.snd = ds.mergeSort (dataLe false id) := by
    rw [PySem.W.sort_maps (r := dataLe false Prod.snd) (s := dataLe false id) Prod.snd (fun _ _ _ _ => rfl), zip_snd (dpa_len h)]
  rw [← e]
  exact dpa_of_mem fun p hp => dpa_mem h p (List.mem_mergeSort.mp hp)
theorem dc_sorted {K : PySem.W.Frag} : DC K (rSortD K) sSorted := fun C F ρ σ H a vs b ds Q Kd hK I hs hs' ha ⟨hb, h1, h2, h3, hk⟩ q => by
  subst hb
  subst hK
  exact ⟨a, vs, ds, rfl, hs, dpa_mono I.fz _ _ ha, h1, h2, h3, fun p hp => q F _ (.own none (.lst _)) _ (Same.refl F) (I.newOwn hp (sorted_pairs ha)) hk⟩

/-! min, max -/
def rMinD (K : PySem.W.Frag) (f : PyData → List PyData → PyData) : List V → Hp → VK → Prop := fun vs H Q => ∃ (a : Addr) (b : Bool) (xs : List V) (d : PyData) (ds : List PyData), vs = [V.ref a] ∧ Seq K H b a xs ∧ DpAll K H xs (d :: ds) ∧ PySem.W.AlikeAll (d :: ds) ∧ PyData.depthAll (d :: ds) ≤ 50 ∧
  ∀ (i : Nat) v, xs[i]? = some v → (d :: ds)[i]? = some (f d ds) → Q v H
theorem reads_elem {X : Cx} {pins : List (Addr × Obj)} {σ : St} {H : Hp} {s : Shared} {xs : List V} {its : List Value} {ds : List PyData} (I : Inv X pins σ H s) (hd : DpAll X.K H xs ds) (rv : Vals xs its) {i : Nat} {u : Value} {m : PyData} {bs : List Addr}
    (e : its[i]? = some u) (r : Reads s.heap u m bs) : ∃ v, xs[i]? = some v ∧ RelV v u ∧ ds[i]? = some m := by
  have hlt : i < xs.length := by
    rw [rv.length]
    exact (List.getElem?_eq_some_iff.mp e).1
  obtain ⟨u', e', r'⟩ := rv.get (List.getElem?_eq_getElem hlt)
  have : u' = u := Option.some.inj (e'.symm.trans e)
  subst this
  have hlt2 : i < ds.length := by
    rw [← dpa_len hd]
    exact hlt
  obtain ⟨v2, e2, hv2⟩ := dpa_get hd (List.getElem?_eq_getElem hlt2)
  have ev : v2 = xs[i] := by
    rw [List.getElem?_eq_getElem hlt] at e2
    exact (Option.some.inj e2).symm
  subst ev
  obtain ⟨cs, q⟩ := Dp.reads I _ _ _ hv2 r'
  have := PySem.SeqAt.plain_unique _ _ _ _ _ (dp_plain _ _ hv2) q r
  exact ⟨_, List.getElem?_eq_getElem hlt, r', by rw [List.getElem?_eq_getElem hlt2, this]⟩
theorem cr_minD (hc : X.calm = true) (hu : X.A.units + 64 < cLine) : CallR X (.builtin "min") (rMinD X.K PySem.W.minD) := by
  intro pins s σ H vs us Q I r h
  obtain ⟨a, b, xs, d, ds, rfl, hs, hd, h1, h2, q⟩ := h
  rw [Vals.ref1 r]
  obtain ⟨its, as, rv, hr, hl⟩ := seq_reads (F := H) I hs (Same.refl H) hd
  have fin : ∀ (i : Nat) (v : Value) (h' : Heap) (tk : Nat) (bs : List Addr), its.toArray[i]? = some v → Reads h' v (PySem.W.minD d ds) bs → (∀ b o, s.heap.get? b = some o → h'.get? b = some o) → EP X pins σ Q v { s with heap := h', toks := tk } := fun i v h' tk bs e rd hk => by
    have I2 : Inv X pins σ H { s with heap := h', toks := tk } := I.kept hk
    obtain ⟨z, e1, e2, e3⟩ := reads_elem I2 hd rv (by simpa using e) rd
    exact ⟨z, H, I2, e2, q i z e1 e3⟩
  cases b with
  | true =>
    rw [if_pos rfl] at hl
    exact PySem.W.min_list_data (I.ok.hd hc) hl (by simpa using hr) h1 (by omega) fun i v h' tk bs e rd hk => fin i v h' tk bs e rd hk
  | false =>
    rw [if_neg (by simp)] at hl
    exact PySem.W.min_tuple_data (I.ok.hd hc) hl (by simpa using hr) h1 (by omega) fun i v h' tk bs e rd hk => fin i v h' tk bs e rd hk
theorem cr_maxD (hc : X.calm = true) (hu : X.A.units + 64 < cLine) : CallR X (.builtin "max") (rMinD X.K PySem.W.maxD) := by
  intro pins s σ H vs us Q I r h
  obtain ⟨a, b, xs, d, ds, rfl, hs, hd, h1, h2, q⟩ := h
  rw [Vals.ref1 r]
  obtain ⟨its, as, rv, hr, hl⟩ := seq_reads (F := H) I hs (Same.refl H) hd
  have fin : ∀ (i : Nat) (v : Value) (h' : Heap) (tk : Nat) (bs : List Addr), its.toArray[i]? = some v → Reads h' v (PySem.W.maxD d ds) bs → (∀ b o, s.heap.get? b = some o → h'.get? b = some o) → EP X pins σ Q v { s with heap := h', toks := tk } := fun i v h' tk bs e rd hk => by
    have I2 : Inv X pins σ H { s with heap := h', toks := tk } := I.kept hk
    obtain ⟨z, e1, e2, e3⟩ := reads_elem I2 hd rv (by simpa using e) rd
    exact ⟨z, H, I2, e2, q i z e1 e3⟩
  cases b with
  | true =>
    rw [if_pos rfl] at hl
    exact PySem.W.max_list_data (I.ok.hd hc) hl (by simpa using hr) h1 (by omega) fun i v h' tk bs e rd hk => fin i v h' tk bs e rd hk
  | false =>
    rw [if_neg (by simp)] at hl
    exact PySem.W.max_tuple_data (I.ok.hd hc) hl (by simpa using hr) h1 (by omega) fun i v h' tk bs e rd hk => fin i v h' tk bs e rd hk
def sBest (f : PyData → List PyData → PyData) : SC := fun _ ds k => match ds with
  | [] => False
  | d :: ds => PySem.W.AlikeAll (d :: ds) ∧ PyData.depthAll (d :: ds) ≤ 50 ∧ k (.dat (f d ds))
theorem dc_best {K : PySem.W.Frag} {f : PyData → List PyData → PyData} : DC K (rMinD K f) (sBest f) := fun C F ρ σ H a vs b ds Q Kd hK I hs hs' ha hk q => by
  cases ds with
  | nil => exact hk.elim
  | cons d ds =>
    obtain ⟨h1, h2, h3⟩ := hk
    subst hK
    refine ⟨a, b, vs, d, ds, rfl, hs, dpa_mono I.fz _ _ ha, h1, h2, fun i v e1 e2 => ?_⟩
    obtain ⟨v', e3, e4⟩ := dpa_get ha e2
    have : v' = v := Option.some.inj (e3.symm.trans e1)
    subst this
    exact q F v' (.dat _) H (Same.refl F) ⟨I, e4⟩ h3

/-! ### == != in not in < by data -/
def rEqP (K : PySem.W.Frag) (neg : Bool) : R2 := fun x y H Q => ∃ d e, Dp K H x d ∧ Dp K H y e ∧ min d.depth e.depth ≤ 50 ∧ Q (.bl (if neg = true then !PyData.eqv d e else PyData.eqv d e)) H
theorem op_eqP (hu : X.A.units + 64 < cLine) : OpR X (compareOp .Eq) (rEqP X.K false) := by
  intro pins s σ H x y v u Q I rx ry h
  obtain ⟨d, e, hd, he, hm, q⟩ := h
  obtain ⟨as, r1⟩ := Dp.reads I d x v hd rx
  obtain ⟨bs, r2⟩ := Dp.reads I e y u he ry
  exact SeqAt.eq_plain r1 r2 (dp_plain _ _ hd) (dp_plain _ _ he) (by omega) ⟨.bl _, H, I, rfl, q⟩
theorem op_neP (hu : X.A.units + 64 < cLine) : OpR X (compareOp .NotEq) (rEqP X.K true) := by
  intro pins s σ H x y v u Q I rx ry h
  obtain ⟨d, e, hd, he, hm, q⟩ := h
  obtain ⟨as, r1⟩ := Dp.reads I d x v hd rx
  obtain ⟨bs, r2⟩ := Dp.reads I e y u he ry
  exact SeqAt.ne_plain r1 r2 (dp_plain _ _ hd) (dp_plain _ _ he) (by omega) ⟨.bl _, H, I, rfl, q⟩
def sEq : S2 := fun d e k => min d.depth e.depth ≤ 50 ∧ k (.bool (PyData.eqv d e))
def sNe : S2 := fun d e k => min d.depth e.depth ≤ 50 ∧ k (.bool (!PyData.eqv d e))
theorem dr_eq {K : PySem.W.Frag} : DR2 K (rEqP K false) sEq := fun C F ρ σ H x y dx dy Q Kd hK I hx hy ⟨h1, h2⟩ q => by
  subst hK
  exact ⟨dx, dy, dp_mono I.fz _ _ hx, dp_mono I.fz _ _ hy, h1, q F _ _ H (Same.refl F) I (.bl _) h2⟩
theorem dr_ne {K : PySem.W.Frag} : DR2 K (rEqP K true) sNe := fun C F ρ σ H x y dx dy Q Kd hK I hx hy ⟨h1, h2⟩ q => by
  subst hK
  exact ⟨dx, dy, dp_mono I.fz _ _ hx, dp_mono I.fz _ _ hy, h1, q F _ _ H (Same.refl F) I (.bl _) h2⟩
/-- x in c -/
def rInP (K : PySem.W.Frag) (neg : Bool) : R2 := fun x y H Q => ∃ d a b vs ds, Dp K H x d ∧ y = .ref a ∧ Seq K H b a vs ∧ DpAll K H vs ds ∧ min (PyData.depthAll ds) d.depth ≤ 50 ∧ Q (.bl (if neg = true then !(ds.any fun y => PyData.eqv y d) else ds.any fun y => PyData.eqv y d)) H
theorem op_inP (hu : X.A.units + 64 < cLine) : OpR X (compareOp .In) (rInP X.K false) := by
  intro pins s σ H x y v u Q I rx ry h
  obtain ⟨d, a, b, vs, ds, hd, rfl, hs, ha, hm, q⟩ := h
  cases ry
  obtain ⟨as, r1⟩ := Dp.reads I d x v hd rx
  obtain ⟨its, cs, rv, hr, hl⟩ := seq_reads (F := H) I hs (Same.refl H) ha
  cases b with
  | true =>
    rw [if_pos rfl] at hl
    obtain ⟨o, h1, h2, n, h3⟩ := hl
    exact SeqAt.in_list_data (Reads.list h1 h2 h3 (by simpa using hr)) r1 (dpa_plain _ _ ha) (dp_plain _ _ hd) (by omega) ⟨.bl _, H, I, rfl, q⟩
  | false =>
    rw [if_neg (by simp)] at hl
    obtain ⟨o, h1, h2, n, h3⟩ := hl
    exact SeqAt.in_tuple_data (Reads.tuple h1 h2 h3 (by simpa using hr)) r1 (dpa_plain _ _ ha) (dp_plain _ _ hd) (by omega) ⟨.bl _, H, I, rfl, q⟩
theorem op_notInP (hu : X.A.units + 64 < cLine) : OpR X (compareOp .NotIn) (rInP X.K true) := by
  intro pins s σ H x y v u Q I rx ry h
  obtain ⟨d, a, b, vs, ds, hd, rfl, hs, ha, hm, q⟩ := h
  cases ry
  obtain ⟨as, r1⟩ := Dp.reads I d x v hd rx
  obtain ⟨its, cs, rv, hr, hl⟩ := seq_reads (F := H) I hs (Same.refl H) ha
  cases b with
  | true =>
    rw [if_pos rfl] at hl
    obtain ⟨o, h1, h2, n, h3⟩ := hl
    exact SeqAt.notIn_list_data (Reads.list h1 h2 h3 (by simpa using hr)) r1 (dpa_plain _ _ ha) (dp_plain _ _ hd) (by omega) ⟨.bl _, H, I, rfl, q⟩
  | false =>
    rw [if_neg (by simp)] at hl
    obtain ⟨o, h1, h2, n, h3⟩ := hl
    exact SeqAt.notIn_tuple_data (Reads.tuple h1 h2 h3 (by simpa using hr)) r1 (dpa_plain _ _ ha) (dp_plain _ _ hd) (by omega) ⟨.bl _, H, I, rfl, q⟩
end

/-- an operator whose right side is what a value contains (in, not in) -/
abbrev SR := PyData → Bool → List PyData → (PyData → Prop) → Prop
def DRS (K : PySem.W.Frag) (r : R2) (s : SR) : Prop := ∀ (C : Fx) (F : Hp) (ρ : AS) (σ : St) (H : Hp) (x : V) (dx : PyData) (a : Addr) (b : Bool) (vs : List V) (ds : List PyData) (Q : VK) (Kd : PyData → Prop), C.K = K → SOk C F ρ σ H → Dp K F x dx → Seq K H b a vs → DpAll K F vs ds → s dx b ds Kd →
  (∀ F' z d H', Same F F' → SOk C F' ρ σ H' → Dp K F' z d → Kd d → Q z H') → r x (.ref a) H Q
def aBinR (s : SR) (Ta Tb : ATE) : ATE := fun ρ K => Ta ρ fun x ρ1 => dd x fun dx => Tb ρ1 fun y ρ2 => arg y fun z => cont ρ2 z fun b ds => s dx b ds fun d => K (.dat d) ρ2
theorem w_opR {K : PySem.W.Frag} {r : R2} {s : SR} {Ta Tb : ATE} (hs : DRS K r s) : ∀ σ H Q, cE K (aBinR s Ta Tb) σ H Q → tOp r (cE K Ta) (cE K Tb) σ H Q := fun σ H Q ⟨C, F, ρ, Kc, hK, I, h, q⟩ => by
  refine ⟨C, F, ρ, _, hK, I, h, fun F1 v x ρ1 H1 s1 r1 k1 => ?_⟩
  obtain ⟨F2, d, s2, I2, hd, k2⟩ := r1.data k1
  refine ⟨C, F2, ρ1, _, hK, I2, k2, fun F3 w y ρ2 H2 s3 r3 k3 => ?_⟩
  obtain ⟨F4, z, s4, I4, hz, k4⟩ := r3.arg k3
  obtain ⟨a, vs, b, ds, rfl, h3, _, h4, k5⟩ := hz.cont I4 k4
  subst hK
  exact hs C F4 ρ2 σ H2 v d a b vs ds Q _ rfl I4 (dp_mono (s3.trans s4) _ _ hd) h3 h4 k5 fun F5 z dz H5 s5 I5 hz kz => q F5 z (.dat dz) ρ2 H5 ((((s1.trans s2).trans s3).trans s4).trans s5) ⟨I5, hz⟩ kz
section
variable {X : Cx} {a b : Expr} {Ta Tb : ATE} {r : R2} {s : SR} {pos : Pos}
theorem e_cmpS {op : CmpOp} (ho : OpR X (compareOp op) r) (hs : DRS X.K r s) (ha : AE X a Ta) (hb : AE X b Tb) (hm : behindInMarks op b = false := by with_unfolding_all rfl) : AE X (.Compare a [op] [b] pos) (aBinR s Ta Tb) := pe_of (pe_cmpR ho ha hb hm) (w_opR hs)
theorem t_cmpS {op : CmpOp} (ho : OpR X (compareOp op) r) (hs : DRS X.K r s) (ha : AE X a Ta) (hb : AE X b Tb) (hm : behindInMarks op b = false := by with_unfolding_all rfl) : AT X (.Compare a [op] [b] pos) (aTst (aBinR s Ta Tb)) := pt_of (pt_cmpR ho ha hb hm) (w_tst (w_opR hs))
def sIn : SR := fun d _ ds k => min (PyData.depthAll ds) d.depth ≤ 50 ∧ k (.bool (ds.any fun y => PyData.eqv y d))
def sNotIn : SR := fun d _ ds k => min (PyData.depthAll ds) d.depth ≤ 50 ∧ k (.bool (!(ds.any fun y => PyData.eqv y d)))
theorem dr_in {K : PySem.W.Frag} : DRS K (rInP K false) sIn := fun C F ρ σ H x dx a b vs ds Q Kd hK I hx hs ha ⟨h1, h2⟩ q =>
  ⟨dx, a, b, vs, ds, dp_mono I.fz _ _ hx, rfl, hs, dpa_mono I.fz _ _ ha, h1, q F _ _ H (Same.refl F) I (.bl _) h2⟩
theorem dr_notIn {K : PySem.W.Frag} : DRS K (rInP K true) sNotIn := fun C F ρ σ H x dx a b vs ds Q Kd hK I hx hs ha ⟨h1, h2⟩ q =>
  ⟨dx, a, b, vs, ds, dp_mono I.fz _ _ hx, rfl, hs, dpa_mono I.fz _ _ ha, h1, q F _ _ H (Same.refl F) I (.bl _) h2⟩
end

/-! ### ints -/
/-- two ints -/
def ii (f : Int → Int → (PyData → Prop) → Prop) : S2
  | .int i, .int j, k => f i j k
  | _, _, _ => False
theorem ii_ok {K : PySem.W.Frag} {F : Hp} {x y : V} {dx dy : PyData} {f : Int → Int → (PyData → Prop) → Prop} {k : PyData → Prop} (hx : Dp K F x dx) (hy : Dp K F y dy) (h : ii f dx dy k) : ∃ i j, x = .int i ∧ y = .int j ∧ f i j k := by
  cases hx with
  | int i =>
    cases hy with
    | int j => exact ⟨i, j, rfl, rfl, h⟩
    | _ => exact h.elim
  | _ => exact h.elim
def fI (g : Int → Int → Int) : Int → Int → (PyData → Prop) → Prop := fun i j k => k (.int (g i j))
def fC (C : Int → Int → Prop) (g : Int → Int → Int) : Int → Int → (PyData → Prop) → Prop := fun i j k => C i j ∧ k (.int (g i j))
def fB (g : Int → Int → Bool) : Int → Int → (PyData → Prop) → Prop := fun i j k => k (.bool (g i j))
theorem dr_i {K : PySem.W.Frag} {g : Int → Int → Int} : DR2 K (rI0 fun i j => .int (g i j)) (ii (fI g)) := fun C F ρ σ H x y dx dy Q Kd hK I hx hy h q => by
  obtain ⟨i, j, rfl, rfl, h⟩ := ii_ok hx hy h
  exact ⟨i, j, rfl, rfl, q F _ _ H (Same.refl F) I (.int _) h⟩
theorem dr_c {K : PySem.W.Frag} {g : Int → Int → Int} {Cn : Int → Int → Prop} : DR2 K (rI Cn fun i j => .int (g i j)) (ii (fC Cn g)) := fun C F ρ σ H x y dx dy Q Kd hK I hx hy h q => by
  obtain ⟨i, j, rfl, rfl, h1, h⟩ := ii_ok hx hy h
  exact ⟨i, j, rfl, rfl, h1, q F _ _ H (Same.refl F) I (.int _) h⟩
theorem dr_b {K : PySem.W.Frag} {g : Int → Int → Bool} : DR2 K (rI0 fun i j => .bl (g i j)) (ii (fB g)) := fun C F ρ σ H x y dx dy Q Kd hK I hx hy h q => by
  obtain ⟨i, j, rfl, rfl, h⟩ := ii_ok hx hy h
  exact ⟨i, j, rfl, rfl, q F _ _ H (Same.refl F) I (.bl _) h⟩
/-- one int -/
def i1 (f : Int → (PyData → Prop) → Prop) : S1
  | .int i, k => f i k
  | _, _ => False
theorem i1_ok {K : PySem.W.Frag} {F : Hp} {x : V} {dx : PyData} {f : Int → (PyData → Prop) → Prop} {k : PyData → Prop} (hx : Dp K F x dx) (h : i1 f dx k) : ∃ i, x = .int i ∧ f i k := by
  cases hx with
  | int i => exact ⟨i, rfl, h⟩
  | _ => exact h.elim
theorem dr_neg {K : PySem.W.Frag} : DR1 K (rU fun i => .int (-i)) (i1 fun i k => k (.int (-i))) := fun C F ρ σ H x dx Q Kd hK I hx h q => by
  obtain ⟨i, rfl, h⟩ := i1_ok hx h
  exact ⟨i, rfl, q F _ _ H (Same.refl F) I (.int _) h⟩
theorem dr_abs {K : PySem.W.Frag} : DR1 K (fun x H Q => (fun xs H Q => ∃ i, xs = [V.int i] ∧ Q (.int (if i < 0 then -i else i)) H) [x] H Q) (i1 fun i k => k (.int (if i < 0 then -i else i))) := fun C F ρ σ H x dx Q Kd hK I hx h q => by
  obtain ⟨i, rfl, h⟩ := i1_ok hx h
  exact ⟨i, rfl, q F _ _ H (Same.refl F) I (.int _) h⟩
theorem dr_int {K : PySem.W.Frag} : DR1 K (fun x H Q => (fun xs H Q => (∃ i, xs = [V.int i] ∧ Q (.int i) H) ∨ ∃ k, xs = [V.bl k] ∧ Q (.int (if k then 1 else 0)) H) [x] H Q) (i1 fun i k => k (.int i)) := fun C F ρ σ H x dx Q Kd hK I hx h q => by
  obtain ⟨i, rfl, h⟩ := i1_ok hx h
  exact .inl ⟨i, rfl, q F _ _ H (Same.refl F) I (.int _) h⟩
/-- x is None, x is not None -/
def sIsN : S2 := fun d e k => e = .none ∧ k (.bool (match d with | .none => true | _ => false))
def sNotN : S2 := fun d e k => e = .none ∧ k (.bool (match d with | .none => false | _ => true))
theorem dr_isN {K : PySem.W.Frag} : DR2 K (fun x y H Q => y = .non ∧ Q (.bl (decide (x = .non))) H) sIsN := fun C F ρ σ H x y dx dy Q Kd hK I hx hy ⟨e, h⟩ q => by
  subst e
  cases hy
  refine ⟨rfl, ?_⟩
  cases hx <;> exact q F _ _ H (Same.refl F) I (.bl _) h
theorem dr_notN {K : PySem.W.Frag} : DR2 K (fun x y H Q => y = .non ∧ Q (.bl (!decide (x = .non))) H) sNotN := fun C F ρ σ H x y dx dy Q Kd hK I hx hy ⟨e, h⟩ q => by
  subst e
  cases hy
  refine ⟨rfl, ?_⟩
  cases hx <;> exact q F _ _ H (Same.refl F) I (.bl _) h
end Ab

set_option maxHeartbeats 4000000
/-! Ab5: subscripts, changes of owned lists, statements. -/
namespace Ab
open PySem PySem.Spec PyProof.Rows L2

theorem atI_dp {K : PySem.W.Frag} {F : Hp} {vs : List V} {ds : List PyData} {i : Int} {d : PyData} (h : DpAll K F vs ds) (e : atI ds i = some d) : ∃ v, atI vs i = some v ∧ Dp K F v d := by
  unfold atI at e ⊢
  rw [dpa_len h]
  obtain ⟨j, e1, e2⟩ := Option.bind_eq_some_iff.mp e
  obtain ⟨v, g1, g2⟩ := dpa_get h e2
  exact ⟨v, by rw [e1]; exact g1, g2⟩
/-- an int of data -/
def iD : PyData → (Int → Prop) → Prop
  | .int i, k => k i
  | _, _ => False
theorem iD_ok {K : PySem.W.Frag} {F : Hp} {x : V} {d : PyData} {k : Int → Prop} (hx : Dp K F x d) (h : iD d k) : ∃ i, x = .int i ∧ d = .int i ∧ k i := by
  cases hx with
  | int i => exact ⟨i, rfl, rfl, h⟩
  | _ => exact h.elim
def aIx (Ta Tb : ATE) : ATE := fun ρ K => Ta ρ fun x ρ1 => arg x fun y => Tb ρ1 fun z ρ2 => dd z fun dz => iD dz fun i => cont ρ2 y fun _ ds => got (atI ds i) fun d => K (.dat d) ρ2
section
variable {X : Cx} {a b e : Expr} {Ta Tb Te : ATE} {pos : Pos}
theorem e_ix (ha : AE X a Ta) (hb : AE X b Tb) (hs : PlainIx b := by exact fun _ _ => rfl) : AE X (.Subscript a b pos) (aIx Ta Tb) := pe_of (pe_ix ix_seq ha hb hs) fun σ H Q ⟨C, F, ρ, Kc, hK, I, h, q⟩ => by
  refine ⟨C, F, ρ, _, hK, I, h, fun F1 v x ρ1 H1 s1 r1 k1 => ?_⟩
  obtain ⟨F2, y, s2, I2, hy, k2⟩ := r1.arg k1
  refine ⟨C, F2, ρ1, _, hK, I2, k2, fun F3 w z ρ2 H2 s3 r3 k3 => ?_⟩
  obtain ⟨F4, dz, s4, I4, hz, k4⟩ := r3.data k3
  obtain ⟨i, rfl, rfl, k5⟩ := iD_ok hz k4
  obtain ⟨p, vs, bb, ds, rfl, h3, _, h4, k6⟩ := (hy.mono (s3.trans s4)).cont I4 k5
  obtain ⟨d, e1, k7⟩ := got_ok k6
  obtain ⟨u, e2, hu⟩ := atI_dp h4 e1
  have fin : Q u H2 := q F4 u (.dat d) ρ2 H2 (((s1.trans s2).trans s3).trans s4) ⟨I4, hu⟩ k7
  rw [hK] at h3
  cases bb with
  | true => exact .inl ⟨p, vs, i, u, rfl, rfl, h3, e2, fin⟩
  | false => exact .inr (.inl ⟨p, vs, i, u, rfl, rfl, h3, e2, fin⟩)
/-- the owned list of a slot -/
def ownL : Option (Option AV) → (Option Nat → List PyData → Prop) → Prop
  | some (some (.own t (.lst ds))), k => k t ds
  | _, _ => False
theorem ownL_ok {o : Option (Option AV)} {k : Option Nat → List PyData → Prop} (h : ownL o k) : ∃ t ds, o = some (some (.own t (.lst ds))) ∧ k t ds := by
  unfold ownL at h
  split at h
  · exact ⟨_, _, rfl, h⟩
  · exact h.elim
/-- xs.append(e), xs the owned list of slot i -/
def aApp (i : Nat) (Te : ATE) : ATS := fun A ρ => ownL ρ[i]? fun _ _ => Te ρ fun x ρ1 => dd x fun d => ownL ρ1[i]? fun t ds => ds.length < sizeLine ∧ A.nx (ρ1.set i (some (.own t (.lst (ds ++ [d])))))
theorem pe_append {i : Nat} {o : Expr} {te : TE} {apos cpos : Pos} (ho : PE X o (tVar i)) (he : PE X e te)
    (hbase : attributeBase o "append" X.env (eval o X.env) = eval o X.env := by rfl)
    (hfew : ((backTo cpos (starEach (e :: []) X.env)).all (fun x => !x.1) && (backToKw cpos (keywordEach [] X.env)).all (fun x => x.1.isSome)
      && decide ((e :: ([] : List Expr)).length + ([] : List Keyword).length + (if ([] : List Keyword).isEmpty then 0 else 1) < 30)) = true := by rfl)
    (hline : (apos.endLine == cpos.line) = true := by rfl) (hst : starEach (e :: []) X.env = (false, eval e X.env) :: starEach [] X.env := by rfl) :
    PE X (.Call (.Attribute o "append" apos) (e :: []) [] cpos) (tBM X.K "list" rAppend (tVar i) (tCons te tNil)) :=
  pe_bm PySem.F.plainAttrs_list PySem.F.slot_list_append PySem.F.type_list_append mt_append ho (pa_cons he pa_nil hst) hbase hfew hline hst rfl
theorem pe_extend {i : Nat} {o : Expr} {te : TE} {apos cpos : Pos} (ho : PE X o (tVar i)) (he : PE X e te)
    (hbase : attributeBase o "extend" X.env (eval o X.env) = eval o X.env := by rfl)
    (hfew : ((backTo cpos (starEach (e :: []) X.env)).all (fun x => !x.1) && (backToKw cpos (keywordEach [] X.env)).all (fun x => x.1.isSome)
      && decide ((e :: ([] : List Expr)).length + ([] : List Keyword).length + (if ([] : List Keyword).isEmpty then 0 else 1) < 30)) = true := by rfl)
    (hline : (apos.endLine == cpos.line) = true := by rfl) (hst : starEach (e :: []) X.env = (false, eval e X.env) :: starEach [] X.env := by rfl) :
    PE X (.Call (.Attribute o "extend" apos) (e :: []) [] cpos) (tBM X.K "list" rExtend (tVar i) (tCons te tNil)) :=
  pe_bm PySem.F.plainAttrs_list PySem.F.slot_list_extend PySem.F.type_list_extend mt_extend ho (pa_cons he pa_nil hst) hbase hfew hline hst rfl
theorem s_app {i : Nat} {call : Expr} (h : PE X call (tBM X.K "list" rAppend (tVar i) (tCons (cE X.K Te) tNil))) (hs : swapsWith call none pos.line X.env = pure false := by rfl) : AStm X (.Expr call pos) (aApp i Te) := ps_of (ps_expr h hs) fun D σ H ⟨C, F, ρ, A, hK, I, h, q1, q2, q3, q4⟩ => by
  obtain ⟨t, ds, ho, h⟩ := ownL_ok h
  obtain ⟨p, vs, e1, e2, e3⟩ := I.at_own ho
  refine ⟨.ref p, e1, .inl ⟨rfl, vs, .inl (.inl e2)⟩, C, F, ρ, _, hK, I, h, fun F1 v x ρ1 H1 s1 r1 k1 => ?_⟩
  obtain ⟨F2, d, s2, I2, hd, k2⟩ := r1.data k1
  obtain ⟨t, ds, ho, hz, k3⟩ := ownL_ok k2
  obtain ⟨p', vs, f1, f2, f3⟩ := I2.at_own ho
  have : p' = p := by rw [e1] at f1; simpa using f1.symm
  subst this
  refine ⟨p', vs, v, rfl, rfl, f2, by rw [dpa_len f3]; exact hz, ?_⟩
  exact q1 F2 _ _ _ (s1.trans s2) (I2.mut ho f1 (dpa_app f3 (.cons hd .nil))) k3
/-- xs.extend(e), e a new list -/
def aExt (i : Nat) (Te : ATE) : ATS := fun A ρ => ownL ρ[i]? fun _ _ => Te ρ fun x ρ1 => ownL (some (some x)) fun _ es => ownL ρ1[i]? fun t ds => ds.length + es.length ≤ sizeLine ∧ A.nx (ρ1.set i (some (.own t (.lst (ds ++ es)))))
theorem s_ext {i : Nat} {call : Expr} (h : PE X call (tBM X.K "list" rExtend (tVar i) (tCons (cE X.K Te) tNil))) (hs : swapsWith call none pos.line X.env = pure false := by rfl) : AStm X (.Expr call pos) (aExt i Te) := ps_of (ps_expr h hs) fun D σ H ⟨C, F, ρ, A, hK, I, h, q1, q2, q3, q4⟩ => by
  obtain ⟨t, ds, ho, h⟩ := ownL_ok h
  obtain ⟨p, vs, e1, e2, e3⟩ := I.at_own ho
  refine ⟨.ref p, e1, .inl ⟨rfl, vs, .inl (.inl e2)⟩, C, F, ρ, _, hK, I, h, fun F1 v x ρ1 H1 s1 r1 k1 => ?_⟩
  obtain ⟨t', es, hx, k2⟩ := ownL_ok k1
  have hx : x = .own t' (.lst es) := by simpa using hx
  subst hx
  obtain ⟨t, ds, ho, hz, k3⟩ := ownL_ok k2
  have J : SOk C F1 (some (.own t' (.lst es)) :: ρ1) (some v :: σ) H1 := r1
  obtain ⟨pe, ws, g1, g2, g3⟩ := J.at_own (i := 0) rfl
  have hv : v = .ref pe := by simpa using g1
  subst hv
  obtain ⟨p', vs, f1, f2, f3⟩ := J.tail.at_own ho
  have : p' = p := by rw [e1] at f1; simpa using f1.symm
  subst this
  refine ⟨p', pe, vs, ws, rfl, rfl, f2, g2, by rw [dpa_len f3, dpa_len g3]; exact hz, ?_⟩
  exact q1 F1 _ _ _ s1 (J.tail.mut ho f1 (dpa_app f3 g3)) k3
/-- xs[k] = e, xs the owned list of slot i -/
def aSetIx (i : Nat) (Ti Te : ATE) : ATS := fun A ρ => Te ρ fun x ρ1 => dd x fun d => ownL ρ1[i]? fun _ _ => Ti ρ1 fun z ρ2 => dd z fun dz => iD dz fun k => ownL ρ2[i]? fun t ds => got (ixN ds.length k) fun j => A.nx (ρ2.set i (some (.own t (.lst (ds.set j d)))))
theorem s_setIx {i : Nat} {o ix : Expr} {Ti : ATE} {tpos : Pos} (ho : PE X o (tVar i)) (hi : AE X ix Ti) (he : AE X e Te) (hg : PG X (.Subscript o ix tpos) (gSub (tVar i) (cE X.K Ti) rSetL))
    (hs : swapsWithSole [.Subscript o ix tpos] e pos.line X.env = pure false := by rfl) (hw : swappedStores [.Subscript o ix tpos] e X.env = pure none := by rfl) : AStm X (.Assign [.Subscript o ix tpos] e pos) (aSetIx i Ti Te) := ps_of (ps_asg he hg hs hw) fun D σ H ⟨C, F, ρ, A, hK, I, h, q1, q2, q3, q4⟩ => by
  refine ⟨C, F, ρ, _, hK, I, h, fun F1 v x ρ1 H1 s1 r1 k1 => ?_⟩
  obtain ⟨F2, d, s2, I2, hd, k2⟩ := r1.data k1
  obtain ⟨t, ds, ho, k2⟩ := ownL_ok k2
  obtain ⟨p, vs, e1, e2, e3⟩ := I2.at_own ho
  refine ⟨.ref p, e1, C, F2, ρ1, _, hK, I2, k2, fun F3 w z ρ2 H2 s3 r3 k3 => ?_⟩
  obtain ⟨F4, dz, s4, I4, hz, k4⟩ := r3.data k3
  obtain ⟨k, rfl, rfl, k5⟩ := iD_ok hz k4
  obtain ⟨t, ds, ho, k6⟩ := ownL_ok k5
  obtain ⟨j, ej, k7⟩ := got_ok k6
  obtain ⟨p', vs, f1, f2, f3⟩ := I4.at_own ho
  have : p' = p := by rw [e1] at f1; simpa using f1.symm
  subst this
  refine ⟨p', vs, k, j, rfl, rfl, f2, by rw [dpa_len f3]; exact ej, ?_⟩
  exact q1 F4 _ _ _ (((s1.trans s2).trans s3).trans s4) (I4.mut ho f1 (dpa_set (dp_mono (s3.trans s4) _ _ hd) f3 j)) k7

/-! ### statements -/
def aSeq (T U : ATS) : ATS := fun A ρ => T { A with nx := U A } ρ
def aNx : ATS := fun A ρ => A.nx ρ
theorem ss_nil : ASs X [] aNx := pss_of pss_nil fun D σ H ⟨C, F, ρ, A, hK, I, h, q1, _⟩ => q1 F ρ σ H (Same.refl F) I h
theorem ss_one {st : Stmt} {T : ATS} (h : AStm X st T) : ASs X [st] T := pss_one h
theorem ss_cons {st : Stmt} {rest : List Stmt} {T U : ATS} (h1 : AStm X st T) (h2 : ASs X rest U) : ASs X (st :: rest) (aSeq T U) := pss_of (pss_cons h1 h2) fun D σ H ⟨C, F, ρ, A, hK, I, h, q1, q2, q3, q4⟩ => by
  refine ⟨C, F, ρ, { A with nx := U A }, hK, I, h, fun F1 ρ1 σ1 H1 s1 I1 k1 => ?_, q2, q3, q4⟩
  exact ⟨C, F1, ρ1, A, hK, I1, k1, fun F2 ρ2 σ2 H2 s2 => q1 F2 ρ2 σ2 H2 (s1.trans s2), fun F2 ρ2 σ2 H2 v x s2 => q2 F2 ρ2 σ2 H2 v x (s1.trans s2), fun F2 ρ2 σ2 H2 s2 => q3 F2 ρ2 σ2 H2 (s1.trans s2), fun F2 ρ2 σ2 H2 s2 => q4 F2 ρ2 σ2 H2 (s1.trans s2)⟩
def aRet (T : ATE) : ATS := fun A ρ => T ρ fun x ρ' => A.rt x ρ'
theorem s_ret (h : AE X e Te) : AStm X (.Return (some e) pos) (aRet Te) := ps_of (ps_ret h) fun D σ H ⟨C, F, ρ, A, hK, I, h, q1, q2, q3, q4⟩ => ⟨C, F, ρ, _, hK, I, h, fun F1 v x ρ1 H1 s1 r1 k1 => q2 F1 ρ1 σ H1 v x s1 r1 k1⟩
def aIf (U : ATT) (T T' : ATS) : ATS := fun A ρ => U ρ fun b ρ' => br b (T A ρ') (T' A ρ')
theorem s_if {c : Expr} {p q : List Stmt} {U : ATT} {T T' : ATS} (hc : AT X c U) (hp : ASs X p T) (hq : ASs X q T') : AStm X (.If c p q pos) (aIf U T T') := ps_of (ps_if hc hp hq) fun D σ H ⟨C, F, ρ, A, hK, I, h, q1, q2, q3, q4⟩ => by
  refine ⟨C, F, ρ, _, hK, I, h, fun F1 b ρ1 H1 s1 I1 k1 => ?_⟩
  have go : ∀ {T : ATS}, T A ρ1 → cS X.K T D σ H1 := fun {T} k => ⟨C, F1, ρ1, A, hK, I1, k, fun F2 ρ2 σ2 H2 s2 => q1 F2 ρ2 σ2 H2 (s1.trans s2), fun F2 ρ2 σ2 H2 v x s2 => q2 F2 ρ2 σ2 H2 v x (s1.trans s2), fun F2 ρ2 σ2 H2 s2 => q3 F2 ρ2 σ2 H2 (s1.trans s2), fun F2 ρ2 σ2 H2 s2 => q4 F2 ρ2 σ2 H2 (s1.trans s2)⟩
  cases b with
  | true => exact iteT (go (k1.1 rfl))
  | false => exact iteF (go (k1.2 rfl))
def aNever : ATS := fun _ _ => False
theorem s_never {st : Stmt} : AStm X st aNever := ps_of ps_never fun D σ H ⟨C, F, ρ, A, hK, I, h, _⟩ => h
theorem ss_never {sts : List Stmt} : ASs X sts aNever := pss_of pss_never fun D σ H ⟨C, F, ρ, A, hK, I, h, _⟩ => h
/-- x = e: data, or a new owned list -/
def stor (i : Nat) : AV → AS → (AS → Prop) → Prop
  | .ali _, _, _ => False
  | x, ρ, k => k (ρ.set i (some x))
theorem Res.stor {C : Fx} {F : Hp} {ρ : AS} {σ : St} {H : Hp} {v : V} {x : AV} {i : Nat} {k : AS → Prop} (h : Res C F ρ σ H v x) (hk : stor i x ρ k) : ∃ ρ', SOk C F ρ' (σ.set i (some v)) H ∧ k ρ' := by
  cases x with
  | dat d => exact ⟨_, h.1.set_dat h.2 i, hk⟩
  | own t o => exact ⟨_, SOk.set_own h i, hk⟩
  | ali j => exact hk.elim
def aSet (i : Nat) (T : ATE) : ATS := fun A ρ => T ρ fun x ρ' => stor i x ρ' A.nx
theorem w_set {K : PySem.W.Frag} {i : Nat} : ∀ D σ H, cS K (aSet i Te) D σ H → tAsg (cE K Te) (gName i) D σ H := fun D σ H ⟨C, F, ρ, A, hK, I, h, q1, q2, q3, q4⟩ => by
  refine ⟨C, F, ρ, _, hK, I, h, fun F1 v x ρ1 H1 s1 r1 k1 => ?_⟩
  obtain ⟨ρ', I2, k2⟩ := r1.stor k1
  exact q1 F1 ρ' _ H1 s1 I2 k2
theorem s_set {i : Nat} {st : Stmt} (h : PS X st (tAsg (cE X.K Te) (gName i))) : AStm X st (aSet i Te) := ps_of h w_set
/-- x += e, an int -/
def aAug (i : Nat) (f : Int → Int → Int) (T : ATE) : ATS := fun A ρ => aName i ρ fun x _ => dd x fun dx => iD dx fun m => T ρ fun y ρ' => dd y fun dy => iD dy fun n => A.nx (ρ'.set i (some (.dat (.int (f m n)))))
theorem s_aug {i : Nat} {st : Stmt} {f : Int → Int → Int} (h : PS X st (tAug i (cE X.K Te) (ipI f))) : AStm X st (aAug i f Te) := ps_of h fun D σ H ⟨C, F, ρ, A, hK, I, h, q1, q2, q3, q4⟩ => by
  unfold aAug aName at h
  split at h
  · rename_i d hd
    obtain ⟨v, e1, e2⟩ := I.dat i d hd
    obtain ⟨m, rfl, rfl, h⟩ := iD_ok e2 h
    refine ⟨_, e1, C, F, ρ, _, hK, I, h, fun F1 w x ρ1 H1 s1 r1 k1 => ?_⟩
    obtain ⟨F2, d, s2, I2, hd, k2⟩ := r1.data k1
    obtain ⟨n, rfl, rfl, k3⟩ := iD_ok hd k2
    exact ⟨m, n, rfl, rfl, q1 F2 _ _ _ (s1.trans s2) (I2.set_dat (.int _) i) k3⟩
  · exact h.elim
  · exact h.elim
/-- a statement that is an expression -/
def aDrop (T : ATE) : ATS := fun A ρ => T ρ fun _ ρ' => A.nx ρ'
theorem s_expr (h : AE X e Te) (hs : swapsWith e none pos.line X.env = pure false := by rfl) : AStm X (.Expr e pos) (aDrop Te) := ps_of (ps_expr h hs) fun D σ H ⟨C, F, ρ, A, hK, I, h, q1, q2, q3, q4⟩ =>
  ⟨C, F, ρ, _, hK, I, h, fun F1 v x ρ1 H1 s1 r1 k1 => q1 F1 ρ1 σ H1 s1 r1.ok k1⟩
end

/-! ### targets -/
abbrev ATG := PyData → AS → (AS → Prop) → Prop
abbrev ATGs := List PyData → AS → (AS → Prop) → Prop
/-- a target's reading; is: the slots that it sets -/
def cG (K : PySem.W.Frag) (is : List Nat) (T : ATG) : TG := fun v σ H Q => ∃ (C : Fx) (F : Hp) (ρ : AS) (d : PyData) (Kc : AS → Prop), C.K = K ∧ SOk C F ρ σ H ∧ Dp C.K F v d ∧ T d ρ Kc ∧ ∀ ρ' σ', SOk C F ρ' σ' H → σ'.length = σ.length → (∀ j : Nat, j ∉ is → σ'[j]? = σ[j]?) → Kc ρ' → Q σ' H
def cGs (K : PySem.W.Frag) (is : List Nat) (T : ATGs) : TGs := fun vs σ H Q => ∃ (C : Fx) (F : Hp) (ρ : AS) (ds : List PyData) (Kc : AS → Prop), C.K = K ∧ SOk C F ρ σ H ∧ DpAll C.K F vs ds ∧ T ds ρ Kc ∧ ∀ ρ' σ', SOk C F ρ' σ' H → σ'.length = σ.length → (∀ j : Nat, j ∉ is → σ'[j]? = σ[j]?) → Kc ρ' → Q σ' H
section
variable {X : Cx} {e : Expr} {es : List Expr} {pos : Pos}
theorem pg_of {t t' : TG} (h : PG X e t) (w : ∀ v σ H Q, t' v σ H Q → t v σ H Q) : PG X e t' := ⟨fun pins s σ H v u Q I r q => h.run pins s σ H v u Q I r (w v σ H Q q)⟩
theorem pgs_of {t t' : TGs} (h : PGs X es t) (w : ∀ v σ H Q, t' v σ H Q → t v σ H Q) : PGs X es t' := ⟨fun pins s σ H v u Q I r q => h.run pins s σ H v u Q I r (w v σ H Q q)⟩
def AG (X : Cx) (e : Expr) (is : List Nat) (T : ATG) : Prop := PG X e (cG X.K is T)
def AGs (X : Cx) (es : List Expr) (is : List Nat) (T : ATGs) : Prop := PGs X es (cGs X.K is T)
def gN (i : Nat) : ATG := fun d ρ k => k (ρ.set i (some (.dat d)))
theorem g_name {i : Nat} (h : PG X e (gName i)) : AG X e [i] (gN i) := pg_of h fun v σ H Q ⟨C, F, ρ, d, Kc, hK, I, hd, h, q⟩ =>
  q _ _ (I.set_dat hd i) (by simp) (fun j hj => List.getElem?_set_ne (by simpa using fun z => hj (by simp [z]))) h
def gZ : ATGs := fun ds ρ k => match ds with
  | [] => k ρ
  | _ => False
def gC (T : ATG) (U : ATGs) : ATGs := fun ds ρ k => match ds with
  | d :: r => T d ρ fun ρ' => U r ρ' k
  | [] => False
def gT (n : Nat) (U : ATGs) : ATG := fun d ρ k => match d with
  | .tuple ds => ds.length = n ∧ U ds ρ k
  | _ => False
theorem gs_nil : AGs X [] [] gZ := pgs_of pgs_nil fun vs σ H Q ⟨C, F, ρ, ds, Kc, hK, I, hd, h, q⟩ => by
  cases hd with
  | nil => exact ⟨rfl, q ρ σ I rfl (fun _ _ => rfl) h⟩
  | cons _ _ => exact h.elim
theorem gs_cons {is js : List Nat} {T : ATG} {U : ATGs} (h1 : AG X e is T) (h2 : AGs X es js U) (hs : (assignEach (e :: es) X.env).map (·.2) = assign e X.env :: (assignEach es X.env).map (·.2) := by rfl) : AGs X (e :: es) (is ++ js) (gC T U) := pgs_of (pgs_cons h1 h2 hs) fun vs σ H Q ⟨C, F, ρ, ds, Kc, hK, I, hd, h, q⟩ => by
  cases hd with
  | nil => exact h.elim
  | cons d1 d2 =>
    refine ⟨_, _, rfl, C, F, ρ, _, _, hK, I, d1, h, fun ρ1 σ1 I1 l1 f1 k1 => ?_⟩
    exact ⟨C, F, ρ1, _, Kc, hK, I1, d2, k1, fun ρ2 σ2 I2 l2 f2 k2 => q ρ2 σ2 I2 (l2.trans l1) (fun j hj => (f2 j fun z => hj (List.mem_append_right _ z)).trans (f1 j fun z => hj (List.mem_append_left _ z))) k2⟩
theorem g_tup {is : List Nat} {U : ATGs} {k : Nat} {n : Nat} (h : PG X (.Tuple es k pos) (gTup X.K n (cGs X.K is U))) : AG X (.Tuple es k pos) is (gT n U) := pg_of h fun v σ H Q ⟨C, F, ρ, d, Kc, hK, I, hd, h, q⟩ => by
  cases hd with
  | tup hs ha =>
    obtain ⟨hn, h⟩ : _ ∧ U _ ρ Kc := h
    exact ⟨_, _, rfl, hK ▸ same_t I.fz hs, by rw [dpa_len ha]; exact hn, C, F, ρ, _, Kc, hK, I, ha, h, q⟩
  | _ => exact h.elim
/-- a, b = e -/
def aUnp (T : ATE) (G : ATG) : ATS := fun A ρ => T ρ fun x ρ' => dd x fun d => G d ρ' A.nx
theorem s_unp {tg : Expr} {is : List Nat} {G : ATG} {Te : ATE} (he : AE X e Te) (hg : AG X tg is G) (h : PS X (.Assign [tg] e pos) (tAsg (cE X.K Te) (cG X.K is G))) : AStm X (.Assign [tg] e pos) (aUnp Te G) := ps_of h fun D σ H ⟨C, F, ρ, A, hK, I, h, q1, q2, q3, q4⟩ => by
  refine ⟨C, F, ρ, _, hK, I, h, fun F1 v x ρ1 H1 s1 r1 k1 => ?_⟩
  obtain ⟨F2, d, s2, I2, hd, k2⟩ := r1.data k1
  exact ⟨C, F2, ρ1, d, _, hK, I2, hd, k2, fun ρ' σ' I3 _ _ k3 => q1 F2 ρ' σ' H1 (s1.trans s2) I3 k3⟩
end
end Ab

set_option maxHeartbeats 4000000
/-! Ab6: what is walked; for; list comprehensions. -/
namespace Ab
open PySem PySem.Spec PyProof.Rows L2

/-- a walk: its items, the slots that it leans on, what must stay true of the state -/
structure IS where
  ds : List PyData
  need : List Nat
  ok : AS → Prop
abbrev ATI := AS → (IS → AS → Prop) → Prop
structure ItOk (K : PySem.W.Frag) (J : It) (F0 : Hp) (ag : St → Prop) (S : IS) : Prop where
  go : ∀ (i : Nat) (C : Fx) (F : Hp) (ρ : AS) (σ : St) (H : Hp), C.K = K → Same F0 F → SOk C F ρ σ H → ag σ → S.ok ρ → i < S.ds.length → J.go i H
  stop : ∀ (i : Nat) (C : Fx) (F : Hp) (ρ : AS) (σ : St) (H : Hp), C.K = K → Same F0 F → SOk C F ρ σ H → ag σ → S.ok ρ → i = S.ds.length → J.stop i H
  yld : ∀ (i : Nat) (C : Fx) (F : Hp) (ρ : AS) (σ : St) (H : Hp) (x : V) (H2 : Hp), C.K = K → Same F0 F → SOk C F ρ σ H → ag σ → S.ok ρ → i < S.ds.length → J.yld i H x H2 → ∃ F2 d, Same F F2 ∧ SOk C F2 ρ σ H2 ∧ S.ds[i]? = some d ∧ Dp C.K F2 x d ∧ S.ok ρ
def cI (K : PySem.W.Frag) (T : ATI) : TI := fun σ H R => ∃ (C : Fx) (F : Hp) (ρ : AS) (Kc : IS → AS → Prop), C.K = K ∧ SOk C F ρ σ H ∧ T ρ Kc ∧
  ∀ F' ρ' H' J S ag, Same F F' → SOk C F' ρ' σ H' → ItOk K J F' ag S → (∀ σ' : St, (∀ i ∈ S.need, σ'[i]? = σ[i]?) → ag σ') → Kc S ρ' → R J H'
def AI (X : Cx) (tg iter : Expr) (T : ATI) : Prop := PI X tg iter (cI X.K T)
section
variable {X : Cx} {tg e : Expr} {Te : ATE}
theorem pi_of {wi wi' : TI} (h : PI X tg e wi) (w : ∀ σ H R, wi' σ H R → wi σ H R) : PI X tg e wi' := ⟨fun pins s σ H R I q => h.run pins s σ H R I (w σ H R q)⟩
/-- a list or a tuple -/
theorem pi_seq {tl : TE} (hl : PE X e tl) : PI X tg e (fun σ H R => tl σ H fun x H1 => ∃ a, x = .ref a ∧ (((∃ xs, SqL X.K H1 a xs) ∧ R (Itl X.K a) H1) ∨ ((∃ xs, SqT X.K H1 a xs) ∧ R (Itt X.K a) H1))) := by
  refine ⟨fun pins s σ H R I h => ?_⟩
  refine thn (hl.run pins s σ H _ I h) fun v s1 ⟨x, H1, I1, r1, q1⟩ => ?_
  obtain ⟨a, rfl, q⟩ := q1
  cases r1
  rcases q with ⟨⟨xs, hq⟩, q⟩ | ⟨⟨xs, hq⟩, q⟩
  · obtain ⟨its, rv, p, hz⟩ := I1.list hq
    refine wpAny_pyIter_list p.isList ?_
    refine ⟨s1.heap.objs.size, [s1.heap.objs.size], _, _, H1, rfl, I1.kept (t' := s1.toks) fun b o e => Heap.get?_push_of_some _ e, turn_list a _, ⟨_, Heap.get?_push_size _ rfl, rfl, rfl⟩, fun b hb => ?_, q⟩
    obtain rfl : b = s1.heap.objs.size := by simpa using hb
    exact I1.fpOk (Nat.le_refl _) (I1.hok.fresh (Nat.le_refl _))
  · obtain ⟨its, rv, p, hz⟩ := I1.tuple hq
    refine wpAny_pyIter_tuple (show s1.heap.IsTuple a its.toArray from p) ?_
    refine ⟨s1.heap.objs.size, [s1.heap.objs.size], _, _, H1, rfl, I1.kept (t' := s1.toks) fun b o e => Heap.get?_push_of_some _ e, turn_tuple a _, ⟨_, Heap.get?_push_size _ rfl, rfl, rfl⟩, fun b hb => ?_, q⟩
    obtain rfl : b = s1.heap.objs.size := by simpa using hb
    exact I1.fpOk (Nat.le_refl _) (I1.hok.fresh (Nat.le_refl _))
def srcOf (ρ : AS) : AV → (IS → Prop) → Prop
  | .dat (.list ds), k => k ⟨ds, [], fun _ => True⟩
  | .dat (.tuple ds), k => k ⟨ds, [], fun _ => True⟩
  | .ali i, k => ownL ρ[i]? fun _ ds => k ⟨ds, [i], fun ρ' => ownL ρ'[i]? fun _ es => es = ds⟩
  | _, _ => False
def aSeqI (Te : ATE) : ATI := fun ρ K => Te ρ fun x ρ1 => arg x fun y => srcOf ρ1 y fun S => K S ρ1
theorem itok_l {K : PySem.W.Frag} {F0 : Hp} {a : Addr} {vs : List V} {ds : List PyData} (h : SqL K F0 a vs) (ha : DpAll K F0 vs ds) : ItOk K (Itl K a) F0 (fun _ => True) ⟨ds, [], fun _ => True⟩ where
  go := fun i C F ρ σ H hK sF I _ _ hi => by
    have hi : i < ds.length := hi
    rw [← dpa_len ha] at hi
    exact ⟨vs, vs[i], (sF.trans I.fz).seq h, List.getElem?_eq_getElem hi⟩
  stop := fun i C F ρ σ H hK sF I _ _ hi => ⟨vs, (sF.trans I.fz).seq h, by rw [dpa_len ha]; exact Nat.le_of_eq hi.symm⟩
  yld := fun i C F ρ σ H x H2 hK sF I _ _ hi ⟨e, y⟩ => by
    subst e
    have y := y vs ((sF.trans I.fz).seq h)
    obtain ⟨v, e1, e2⟩ := dpa_get ha (List.getElem?_eq_getElem hi)
    have : v = x := Option.some.inj (e1.symm.trans y)
    subst this
    exact ⟨F, _, Same.refl F, I, List.getElem?_eq_getElem hi, hK ▸ dp_mono sF _ _ e2, trivial⟩
theorem itok_t {K : PySem.W.Frag} {F0 : Hp} {a : Addr} {vs : List V} {ds : List PyData} (h : SqT K F0 a vs) (ha : DpAll K F0 vs ds) : ItOk K (Itt K a) F0 (fun _ => True) ⟨ds, [], fun _ => True⟩ where
  go := fun i C F ρ σ H hK sF I _ _ hi => by
    have hi : i < ds.length := hi
    rw [← dpa_len ha] at hi
    exact ⟨vs, vs[i], same_t (sF.trans I.fz) h, List.getElem?_eq_getElem hi⟩
  stop := fun i C F ρ σ H hK sF I _ _ hi => ⟨vs, same_t (sF.trans I.fz) h, by rw [dpa_len ha]; exact Nat.le_of_eq hi.symm⟩
  yld := fun i C F ρ σ H x H2 hK sF I _ _ hi ⟨e, y⟩ => by
    subst e
    have y := y vs (same_t (sF.trans I.fz) h)
    obtain ⟨v, e1, e2⟩ := dpa_get ha (List.getElem?_eq_getElem hi)
    have : v = x := Option.some.inj (e1.symm.trans y)
    subst this
    exact ⟨F, _, Same.refl F, I, List.getElem?_eq_getElem hi, hK ▸ dp_mono sF _ _ e2, trivial⟩
theorem itok_o {K : PySem.W.Frag} {F0 : Hp} {a : Addr} {i0 : Nat} {ds : List PyData} : ItOk K (Itl K a) F0 (fun σ => σ[i0]? = some (some (.ref a))) ⟨ds, [i0], fun ρ' => ownL ρ'[i0]? fun _ es => es = ds⟩ where
  go := fun i C F ρ σ H hK sF I ag ok hi => by
    obtain ⟨t, es, e, rfl⟩ := ownL_ok ok
    obtain ⟨p, vs, f1, f2, f3⟩ := I.at_own e
    have : p = a := by rw [ag] at f1; simpa using f1.symm
    subst this
    have hi : i < es.length := hi
    rw [← dpa_len f3] at hi
    exact ⟨vs, vs[i], .inl (.inl f2), List.getElem?_eq_getElem hi⟩
  stop := fun i C F ρ σ H hK sF I ag ok hi => by
    obtain ⟨t, es, e, rfl⟩ := ownL_ok ok
    obtain ⟨p, vs, f1, f2, f3⟩ := I.at_own e
    have : p = a := by rw [ag] at f1; simpa using f1.symm
    subst this
    exact ⟨vs, .inl (.inl f2), by rw [dpa_len f3]; exact Nat.le_of_eq hi.symm⟩
  yld := fun i C F ρ σ H x H2 hK sF I ag ok hi ⟨e', y⟩ => by
    subst e'
    obtain ⟨t, es, e, rfl⟩ := ownL_ok ok
    obtain ⟨p, vs, f1, f2, f3⟩ := I.at_own e
    have : p = a := by rw [ag] at f1; simpa using f1.symm
    subst this
    have y := y vs (.inl (.inl f2))
    obtain ⟨v, e1, e2⟩ := dpa_get f3 (List.getElem?_eq_getElem hi)
    have : v = x := Option.some.inj (e1.symm.trans y)
    subst this
    exact ⟨F, _, Same.refl F, I, List.getElem?_eq_getElem hi, e2, ok⟩
theorem i_seq (he : AE X e Te) : AI X tg e (aSeqI Te) := pi_of (pi_seq he) fun σ H R ⟨C, F, ρ, Kc, hK, I, h, q⟩ => by
  refine ⟨C, F, ρ, _, hK, I, h, fun F1 v x ρ1 H1 s1 r1 k1 => ?_⟩
  obtain ⟨F2, y, s2, I2, hy, k2⟩ := r1.arg k1
  cases y with
  | dat d =>
    have hy : Dp C.K F2 v d := hy
    rw [hK] at hy
    cases hy with
    | lst hs ha => exact ⟨_, rfl, .inl ⟨⟨_, I2.fz.seq hs⟩, q F2 ρ1 H1 _ _ _ (s1.trans s2) I2 (itok_l hs ha) (fun _ _ => trivial) k2⟩⟩
    | tup hs ha => exact ⟨_, rfl, .inr ⟨⟨_, same_t I2.fz hs⟩, q F2 ρ1 H1 _ _ _ (s1.trans s2) I2 (itok_t hs ha) (fun _ _ => trivial) k2⟩⟩
    | _ => exact k2.elim
  | own t o => exact hy.elim
  | ali i =>
    have hy : σ[i]? = some (some v) := hy
    obtain ⟨t, ds, e, k3⟩ := ownL_ok k2
    obtain ⟨a, vs, f1, f2, f3⟩ := I2.at_own e
    have hv : v = .ref a := by rw [hy] at f1; simpa using f1
    subst hv
    refine ⟨a, rfl, .inl ⟨⟨vs, .inl (.inl f2)⟩, q F2 ρ1 H1 _ _ _ (s1.trans s2) I2 itok_o (fun σ' hσ => ?_) k3⟩⟩
    exact (hσ i (List.mem_singleton.mpr rfl)).trans hy
/-- range(n), range(m, n) -/
def rangeD (lo : Int) (n : Nat) : List PyData := (List.range n).map fun (k : Nat) => PyData.int (lo + (k : Int))
def aRng1 (Te : ATE) : ATI := fun ρ K => Te ρ fun x ρ1 => dd x fun d => iD d fun n => -(2 ^ 62) ≤ n ∧ n < 2 ^ 62 ∧ K ⟨rangeD 0 n.toNat, [], fun _ => True⟩ ρ1
theorem itok_r {K : PySem.W.Frag} {F0 : Hp} {lo : Int} {n : Nat} : ItOk K (Itr lo n) F0 (fun _ => True) ⟨rangeD lo n, [], fun _ => True⟩ where
  go := fun i C F ρ σ H hK sF I _ _ hi => by
    have hi : i < n := by simpa [rangeD] using hi
    exact hi
  stop := fun i C F ρ σ H hK sF I _ _ hi => by
    have : i = n := by simpa [rangeD] using hi
    exact Nat.le_of_eq this.symm
  yld := fun i C F ρ σ H x H2 hK sF I _ _ hi ⟨e, y⟩ => by
    subst e
    subst y
    have hi : i < n := by simpa [rangeD] using hi
    exact ⟨F, _, Same.refl F, I, by simp [rangeD, hi], .int _, trivial⟩
theorem i_rng1 {a : Expr} {p pos : Pos} (hg : Gl X "range") (hm : X.mg "range" = none) (ha : AE X a Te) (hs : starEach [a] X.env = [(false, eval a X.env)] := by rfl) : AI X tg (.Call (.Name "range" p) [a] [] pos) (aRng1 Te) :=
  pi_of (pi_range1 hg hm (pa_cons ha pa_nil hs) hs) fun σ H R ⟨C, F, ρ, Kc, hK, I, h, q⟩ => by
    refine ⟨C, F, ρ, _, hK, I, h, fun F1 v x ρ1 H1 s1 r1 k1 => ?_⟩
    obtain ⟨F2, d, s2, I2, hd, k2⟩ := r1.data k1
    obtain ⟨n, rfl, rfl, h1, h2, k3⟩ := iD_ok hd k2
    exact ⟨n, rfl, h1, h2, q F2 ρ1 H1 _ _ _ (s1.trans s2) I2 itok_r (fun _ _ => trivial) k3⟩
end

/-! ### for -/
def forRun (G : ATG) (T : ATS) : List PyData → AD → AS → Prop
  | [], A, ρ => A.nx ρ
  | d :: ds, A, ρ => G d ρ fun ρ1 => T { A with nx := forRun G T ds A, ct := forRun G T ds A, bk := A.nx } ρ1
/-- the items must be data (a list that the program still changes is not walked so) -/
def aFor (TI : ATI) (G : ATG) (T : ATS) : ATS := fun A ρ => TI ρ fun S ρ1 => S.need = [] ∧ (∀ r, S.ok r) ∧ forRun G T S.ds A ρ1
theorem s_for {X : Cx} {tg iter : Expr} {body : List Stmt} {pos : Pos} {TI : ATI} {is : List Nat} {G : ATG} {T : ATS} (hp : PassesOwn (model X.prog X.w) X.A X.env X.xe) (hc : X.calm = true) (hi : AI X tg iter TI) (hg : AG X tg is G) (hb : ASs X body T)
    (hs : ∀ x, foldedSetIterable iter X.env x = pure x := by intro _; rfl) : AStm X (.For tg iter body [] pos) (aFor TI G T) := ps_of (ps_for hp hc hi hg hb hs) fun D σ H ⟨C, F, ρ, A, hK, I, h, q1, q2, q3, q4⟩ => by
  refine ⟨C, F, ρ, _, hK, I, h, fun F1 ρ1 H1 J S ag s1 I1 it hag ⟨hn, hok, k1⟩ => ?_⟩
  have hag' : ∀ σ', ag σ' := fun σ' => hag σ' fun i hi => by rw [hn] at hi; cases hi
  refine ⟨fun i m σ H => ∃ F2 ρ2 pre ds, Same F1 F2 ∧ SOk C F2 ρ2 σ H ∧ S.ds = pre ++ ds ∧ i = pre.length ∧ m = ds.length ∧ forRun G T ds A ρ2, ⟨S.ds.length, F1, ρ1, [], S.ds, Same.refl _, I1, rfl, rfl, rfl, k1⟩, ?_⟩
  rintro i m σ2 H2 ⟨F2, ρ2, pre, ds, s2, I2, e, rfl, rfl, k2⟩
  cases ds with
  | nil =>
    refine .inl ⟨it.stop _ C F2 ρ2 σ2 H2 hK s2 I2 (hag' _) (hok _) (by rw [e, List.append_nil]), ?_⟩
    exact q1 F2 ρ2 σ2 H2 (s1.trans s2) I2 k2
  | cons d ds =>
    have hlt : pre.length < S.ds.length := by rw [e]; simp
    refine .inr ⟨it.go _ C F2 ρ2 σ2 H2 hK s2 I2 (hag' _) (hok _) hlt, fun σ H => ∃ F3 ρ3, Same F1 F3 ∧ SOk C F3 ρ3 σ H ∧ forRun G T ds A ρ3, fun σ' H' ⟨F3, ρ3, g1, g2, g3⟩ => ?_, fun x H' y => ?_⟩
    · exact ⟨ds.length, by simp, F3, ρ3, pre ++ [d], ds, g1, g2, by rw [e]; simp, by simp, rfl, g3⟩
    · obtain ⟨F3, d', s3, I3, ed, hd, _⟩ := it.yld _ C F2 ρ2 σ2 H2 x H' hK s2 I2 (hag' _) (hok _) hlt y
      have : d' = d := by
        rw [e] at ed
        simpa using ed.symm
      subst this
      refine ⟨C, F3, ρ2, d', _, hK, I3, hd, k2, fun ρ4 σ4 I4 _ _ k4 => ?_⟩
      have S4 := (s1.trans s2).trans s3
      refine ⟨C, F3, ρ4, _, hK, I4, k4, fun F5 ρ5 σ5 H5 s5 I5 k5 => ⟨F5, ρ5, (s2.trans s3).trans s5, I5, k5⟩, fun F5 ρ5 σ5 H5 v x s5 => q2 F5 ρ5 σ5 H5 v x (S4.trans s5), fun F5 ρ5 σ5 H5 s5 I5 k5 => q1 F5 ρ5 σ5 H5 (S4.trans s5) I5 k5, fun F5 ρ5 σ5 H5 s5 I5 k5 => ⟨F5, ρ5, (s2.trans s3).trans s5, I5, k5⟩⟩
/-- the owned list of slot i becomes data -/
theorem SOk.freezeAt {C : Fx} {F : Hp} {ρ : AS} {σ : St} {H : Hp} {i : Nat} {t : Option Nat} {ds : List PyData} (I : SOk C F ρ σ H) (hi : ρ[i]? = some (some (.own t (.lst ds)))) : ∃ F', Same F F' ∧ SOk C F' (ρ.set i (some (.dat (.list ds)))) σ H := by
  obtain ⟨S, s1, s2, s3⟩ := I.own
  obtain ⟨a, e1, ⟨e2, vs, e3, e4⟩, _⟩ := s1 i t (.lst ds) hi
  have sa : S i a := (e2 a).mpr rfl
  obtain ⟨n1, n2, n3⟩ := s2 i a sa
  have e : Same F (upd F a (.lst vs)) := same_upd' n1
  have hlt : i < ρ.length := (List.getElem?_eq_some_iff.mp hi).1
  refine ⟨upd F a (.lst vs), e, ?_⟩
  refine ⟨by simp [I.len], fun b u q => ?_, I.fr, fun b u q => ?_, fun j d q => ?_, fun j b => j ≠ i ∧ S j b, fun j t' o q => ?_, fun j b sb => ?_, fun j k b si sj => s3 j k b si.2 sj.2⟩
  · by_cases hb : b = a
    · subst hb
      rw [upd_same] at q
      cases q
      exact e3
    · rw [upd_ne hb] at q
      exact I.fz b u q
  · by_cases hb : b = a
    · subst hb
      exact .inr (.inl n2)
    · rw [upd_ne hb] at q
      exact I.nf b u q
  · rw [List.getElem?_set] at q
    split at q
    · rename_i hij
      subst hij
      simp at q
      subst q
      exact ⟨_, e1, .lst (SqL.of upd_same) (dpa_mono e _ _ e4)⟩
    · obtain ⟨w, q1, q2⟩ := I.dat j d q
      exact ⟨w, q1, dp_mono e _ _ q2⟩
  · rw [List.getElem?_set] at q
    split at q
    · simp at q
    · rename_i hij
      obtain ⟨c, f1, f2, f3⟩ := s1 j t' o q
      have hji : j ≠ i := fun z => hij z.symm
      refine ⟨c, f1, ?_, f3⟩
      have : (fun b => j ≠ i ∧ S j b) = S j := by
        funext b
        simp [hji]
      show Ho C.K _ H c (fun b => j ≠ i ∧ S j b) o
      rw [this]
      exact ho_mono e (fun _ _ => rfl) f2
  · have hb : b ≠ a := fun z => by
      subst z
      exact sb.1 (s3 _ _ _ sb.2 sa)
    rw [upd_ne hb]
    exact s2 j b sb.2
/-- a statement, the lists of some slots made data ahead of it -/
def aFrz (i : Nat) (T : ATS) : ATS := fun A ρ => ownL ρ[i]? fun _ ds => T A (ρ.set i (some (.dat (.list ds))))
theorem s_frz {X : Cx} {st : Stmt} {T : ATS} (i : Nat) (h : AStm X st T) : AStm X st (aFrz i T) := ps_of h fun D σ H ⟨C, F, ρ, A, hK, I, h, q1, q2, q3, q4⟩ => by
  obtain ⟨t, ds, e, h⟩ := ownL_ok h
  obtain ⟨F1, s1, I1⟩ := I.freezeAt e
  exact ⟨C, F1, _, A, hK, I1, h, fun F2 ρ2 σ2 H2 s2 => q1 F2 ρ2 σ2 H2 (s1.trans s2), fun F2 ρ2 σ2 H2 v x s2 => q2 F2 ρ2 σ2 H2 v x (s1.trans s2), fun F2 ρ2 σ2 H2 s2 => q3 F2 ρ2 σ2 H2 (s1.trans s2), fun F2 ρ2 σ2 H2 s2 => q4 F2 ρ2 σ2 H2 (s1.trans s2)⟩

/-! ### list comprehensions -/
def wipeA (ρ : AS) : List Nat → AS
  | [] => ρ
  | v :: vs => (wipeA ρ vs).set v none
/-- the slots vs as they were in ρ -/
def restA (ρ ρ' : AS) : List Nat → AS
  | [] => ρ'
  | v :: vs => (restA ρ ρ' vs).set v (ρ[v]?.getD none)
def freeOf (ρ : AS) (need : List Nat) : List Nat → Prop
  | [] => True
  | v :: vs => (match ρ[v]? with | some (some (.own _ _)) => False | _ => True) ∧ v ∉ need ∧ freeOf ρ need vs
def turn (G : ATG) (U : ATT) (Te : ATE) (vs : List Nat) (d : PyData) (ρ : AS) (Ka : PyData → AS → Prop) (Ks : AS → Prop) : Prop :=
  G d (wipeA ρ vs) fun ρ1 => U ρ1 fun b ρ2 => br b (Te ρ2 fun y ρ3 => dd y fun dy => Ka dy (restA ρ ρ3 vs)) (Ks (restA ρ ρ2 vs))
def lcRun (G : ATG) (U : ATT) (Te : ATE) (vs need : List Nat) (ok : AS → Prop) : List PyData → List PyData → AS → (List PyData → AS → Prop) → Prop
  | [], acc, ρ, K => ok ρ ∧ K acc ρ
  | d :: ds, acc, ρ, K => ok ρ ∧ freeOf ρ need vs ∧ turn G U Te vs d ρ (fun dy ρ' => acc.length < sizeLine ∧ lcRun G U Te vs need ok ds (acc ++ [dy]) ρ' K) (fun ρ' => lcRun G U Te vs need ok ds acc ρ' K)
def aLc (TI : ATI) (G : ATG) (U : ATT) (Te : ATE) (vs : List Nat) : ATE := fun ρ K => TI ρ fun S ρ1 => lcRun G U Te vs S.need S.ok S.ds [] ρ1 fun acc ρ2 => K (.own none (.lst acc)) ρ2
def aYes : ATT := fun ρ K => K true ρ
theorem wipeA_len (ρ : AS) : ∀ vs, (wipeA ρ vs).length = ρ.length
  | [] => rfl
  | v :: vs => by simp [wipeA, wipeA_len ρ vs]
theorem restA_len (ρ ρ' : AS) : ∀ vs, (restA ρ ρ' vs).length = ρ'.length
  | [] => rfl
  | v :: vs => by simp [restA, restA_len ρ ρ' vs]
theorem wipeA_some {ρ : AS} {i : Nat} {x : AV} : ∀ {vs : List Nat}, (wipeA ρ vs)[i]? = some (some x) → ρ[i]? = some (some x) ∧ i ∉ vs
  | [], h => ⟨h, by simp⟩
  | v :: vs, h => by
    unfold wipeA at h
    by_cases hi : v = i
    · subst hi
      rw [List.getElem?_set] at h
      split at h
      · split at h
        · simp at h
        · cases h
      · rename_i z
        exact absurd rfl z
    · rw [List.getElem?_set_ne hi] at h
      obtain ⟨h1, h2⟩ := wipeA_some h
      exact ⟨h1, by simp only [List.mem_cons, not_or]; exact ⟨fun e => hi e.symm, h2⟩⟩
theorem restA_out {ρ ρ' : AS} {i : Nat} : ∀ {vs : List Nat}, i ∉ vs → (restA ρ ρ' vs)[i]? = ρ'[i]?
  | [], _ => rfl
  | v :: vs, h => by
    simp only [List.mem_cons, not_or] at h
    unfold restA
    rw [List.getElem?_set_ne (fun z => h.1 z.symm), restA_out h.2]
theorem restA_in {ρ ρ' : AS} {i : Nat} {x : AV} : ∀ {vs : List Nat}, i ∈ vs → (restA ρ ρ' vs)[i]? = some (some x) → ρ[i]? = some (some x)
  | [], h, _ => by cases h
  | v :: vs, h, e => by
    unfold restA at e
    by_cases hi : v = i
    · subst hi
      rw [List.getElem?_set] at e
      split at e
      · split at e
        · have e : ρ[v]?.getD none = some x := Option.some.inj e
          cases q : ρ[v]? with
          | none => rw [q] at e; cases e
          | some u => rw [q] at e; simp at e; rw [e]
        · cases e
      · rename_i z
        exact absurd rfl z
    · rw [List.getElem?_set_ne hi] at e
      refine restA_in ?_ e
      rcases List.mem_cons.mp h with z | z
      · exact absurd z.symm hi
      · exact z
theorem freeOf_own {ρ : AS} {need : List Nat} {i : Nat} : ∀ {vs : List Nat}, freeOf ρ need vs → i ∈ vs → (∀ t o, ρ[i]? ≠ some (some (.own t o))) ∧ i ∉ need
  | [], _, h => by cases h
  | v :: vs, hf, h => by
    obtain ⟨h1, h2, h3⟩ := hf
    rcases List.mem_cons.mp h with rfl | h
    · refine ⟨fun t o e => ?_, h2⟩
      rw [e] at h1
      exact h1
    · exact freeOf_own h3 h

/-- within a block: the new list at D is held by the frame -/
def Fx.hold (C : Fx) (F : Hp) (D : Addr) (vs : List V) : Fx := { C with B := upd C.B D (.lst vs), F0 := F }
theorem SOk.into {C : Fx} {F : Hp} {ρ : AS} {σ : St} {H : Hp} {D : Addr} {vs : List V} {acc : List PyData} {ws : List Nat} (I : SOk C F (some (.own none (.lst acc)) :: ρ) (some (.ref D) :: σ) H) (hD : H D = some (.lst vs)) : SOk (C.hold F D vs) F (wipeA ρ ws) (wipe σ ws) H := by
  obtain ⟨S, s1, s2, s3⟩ := I.own
  obtain ⟨a, e1, ⟨e2, vs', e3, e4⟩, _⟩ := s1 0 none (.lst acc) rfl
  have : D = a := by simpa using e1
  subst this
  have sD : S 0 D := (e2 D).mpr rfl
  have J := I.tail
  refine ⟨by rw [wipeA_len, wipe_length]; exact J.len, I.fz, fun b u q => ?_, fun b u q => .inl q, fun i d q => ?_, fun i b => S (i + 1) b, fun i t o q => ?_, fun i b sb => ?_, fun i j b si sj => ?_⟩
  · by_cases hb : b = D
    · subst hb
      have q : upd C.B b (.lst vs) b = some u := q
      rw [upd_same] at q
      cases q
      exact hD
    · have q : upd C.B D (.lst vs) b = some u := q
      rw [upd_ne hb] at q
      exact I.fr b u q
  · obtain ⟨q1, q2⟩ := wipeA_some q
    obtain ⟨v, g1, g2⟩ := J.dat i d q1
    exact ⟨v, by rw [wipe_out q2]; exact g1, g2⟩
  · obtain ⟨q1, q2⟩ := wipeA_some q
    obtain ⟨c, f1, f2, f3⟩ := s1 (i + 1) t o (by simpa using q1)
    exact ⟨c, by rw [wipe_out q2]; simpa using f1, f2, f3⟩
  · obtain ⟨n1, n2, n3⟩ := s2 (i + 1) b sb
    have hb : b ≠ D := fun z => by
      subst z
      have := s3 _ _ _ sb sD
      omega
    refine ⟨n1, ?_, n3⟩
    show upd C.B D (.lst vs) b = none
    rw [upd_ne hb]
    exact n2
  · have := s3 _ _ b si sj
    omega
theorem SOk.outof {C : Fx} {F F' : Hp} {ρ ρ' : AS} {σ σ' : St} {H H' : Hp} {D : Addr} {vs : List V} {acc : List PyData} {ws need : List Nat} (I : SOk C F (some (.own none (.lst acc)) :: ρ) (some (.ref D) :: σ) H) (hD : H D = some (.lst vs)) (hv : DpAll C.K F vs acc)
    (hf : freeOf ρ need ws) (s : Same F F') (J : SOk (C.hold F D vs) F' ρ' σ' H') (hl : σ'.length = σ.length) (hσ : ∀ j : Nat, j ∉ ws → σ'[j]? = σ[j]?) :
    SOk C F' (some (.own none (.lst acc)) :: restA ρ ρ' ws) (some (.ref D) :: σ) H' := by
  obtain ⟨S, s1, s2, s3⟩ := I.own
  obtain ⟨a, e1, ⟨e2, vs', e3, e4⟩, _⟩ := s1 0 none (.lst acc) rfl
  have : D = a := by simpa using e1
  subst this
  have sD : S 0 D := (e2 D).mpr rfl
  obtain ⟨m1, m2, m3⟩ := s2 0 D sD
  obtain ⟨T, t1, t2, t3⟩ := J.own
  have hB : ∀ b, (C.hold F D vs).B b = none → b ≠ D ∧ C.B b = none := fun b q => by
    have q : upd C.B D (.lst vs) b = none := q
    by_cases hb : b = D
    · subst hb
      rw [upd_same] at q
      cases q
    · rw [upd_ne hb] at q
      exact ⟨hb, q⟩
  have hD' : H' D = some (.lst vs) := J.fr D _ (show upd C.B D (.lst vs) D = some (.lst vs) from upd_same)
  have hFD : F' D = none := by
    cases q : F' D with
    | none => rfl
    | some u =>
      rcases J.nf D u q with z | z | ⟨xs, z⟩
      · have z : F D = some u := z
        rw [m1] at z
        cases z
      · exact absurd rfl (hB D z).1
      · subst z
        have z := J.fz D _ q
        rw [hD'] at z
        cases z
  have noown : ∀ (i : Nat) t o, (restA ρ ρ' ws)[i]? = some (some (.own t o)) → i ∉ ws := fun i t o q hi => (freeOf_own hf hi).1 t o (restA_in hi q)
  refine ⟨by simp [restA_len, J.len, hl], J.fz, fun b u q => ?_, fun b u q => ?_, fun i d q => ?_, fun i b => match i with | 0 => b = D | i + 1 => i ∉ ws ∧ T i b, fun i t o q => ?_, fun i b sb => ?_, fun i j b si sj => ?_⟩
  · refine J.fr b u ?_
    show upd C.B D (.lst vs) b = some u
    have hb : b ≠ D := fun z => by
      subst z
      rw [m2] at q
      cases q
    rw [upd_ne hb]
    exact q
  · rcases J.nf b u q with z | z | z
    · exact I.nf b u z
    · exact .inr (.inl (hB b z).2)
    · exact .inr (.inr z)
  · cases i with
    | zero => simp at q
    | succ i =>
      have q : (restA ρ ρ' ws)[i]? = some (some (.dat d)) := by simpa using q
      by_cases hi : i ∈ ws
      · obtain ⟨v, g1, g2⟩ := I.dat (i + 1) d (by simpa using restA_in hi q)
        exact ⟨v, g1, dp_mono s _ _ g2⟩
      · rw [restA_out hi] at q
        obtain ⟨v, g1, g2⟩ := J.dat i d q
        exact ⟨v, by simpa using (hσ i hi).symm.trans g1, g2⟩
  · cases i with
    | zero =>
      simp at q
      obtain ⟨rfl, rfl⟩ := q
      exact ⟨D, rfl, ⟨fun b => Iff.rfl, vs, hD', dpa_mono s _ _ hv⟩, fun j e => nomatch e⟩
    | succ i =>
      have q : (restA ρ ρ' ws)[i]? = some (some (.own t o)) := by simpa using q
      have hi := noown i t o q
      rw [restA_out hi] at q
      obtain ⟨c, f1, f2, f3⟩ := t1 i t o q
      refine ⟨c, by simpa using (hσ i hi).symm.trans f1, ?_, f3⟩
      have : (fun b => i ∉ ws ∧ T i b) = T i := by
        funext b
        simp [hi]
      show Ho C.K F' H' c (fun b => i ∉ ws ∧ T i b) o
      rw [this]
      exact f2
  · cases i with
    | zero =>
      have e : b = D := sb
      subst e
      exact ⟨hFD, m2, by rw [hD']; simp⟩
    | succ i =>
      obtain ⟨n1, n2, n3⟩ := t2 i b sb.2
      exact ⟨n1, (hB b n2).2, n3⟩
  · cases i with
    | zero =>
      cases j with
      | zero => rfl
      | succ j => exact absurd si (hB b (t2 j b sj.2).2.1).1
    | succ i =>
      cases j with
      | zero => exact absurd sj (hB b (t2 i b si.2).2.1).1
      | succ j => rw [t3 i j b si.2 sj.2]
theorem wipe_same {σ σ' : St} : ∀ (vs : List Nat), (∀ j : Nat, j ∉ vs → σ'[j]? = σ[j]?) → σ'.length = σ.length → wipe σ' vs = wipe σ vs := fun vs h hl => by
  apply List.ext_getElem?
  intro j
  by_cases hj : j ∈ vs
  · have : ∀ σ : St, (wipe σ vs)[j]? = if j < σ.length then some none else none := fun σ => by
      clear h hl
      induction vs with
      | nil => cases hj
      | cons v vs ih =>
        unfold wipe
        rw [List.getElem?_set, wipe_length]
        by_cases e : v = j
        · subst e
          rw [if_pos rfl]
        · rw [if_neg e]
          rcases List.mem_cons.mp hj with z | z
          · exact absurd z.symm e
          · exact ih z
    rw [this, this, hl]
  · rw [wipe_out hj, wipe_out hj, h j hj]
theorem w_lc {K : PySem.W.Frag} {TI : ATI} {G : ATG} {U : ATT} {Te : ATE} {vs : List Nat} {is : List Nat} (his : ∀ i ∈ is, i ∈ vs) : ∀ σ H Q, cE K (aLc TI G U Te vs) σ H Q → tLc (cI K TI) (cG K is G) (cT K U) (cE K Te) vs σ H Q := fun σ H Q ⟨C, F, ρ, Kc, hK, I, h, q⟩ => by
  refine ⟨C, F, ρ, _, hK, I, h, fun F1 ρ1 H1 J S ag s1 I1 it hag k1 => ?_⟩
  intro D hD
  refine ⟨fun i m H => ∃ F2 ρ2 pre ds acc ws, Same F1 F2 ∧ SOk C F2 (some (.own none (.lst acc)) :: ρ2) (some (.ref D) :: σ) H ∧ H D = some (.lst ws) ∧ DpAll C.K F2 ws acc ∧ S.ds = pre ++ ds ∧ i = pre.length ∧ m = ds.length ∧
    lcRun G U Te vs S.need S.ok ds acc ρ2 (fun acc ρ2 => Kc (.own none (.lst acc)) ρ2), ⟨S.ds.length, F1, ρ1, [], S.ds, [], [], Same.refl _, I1.newOwn hD .nil, upd_same, .nil, rfl, rfl, rfl, k1⟩, ?_⟩
  rintro i m H2 ⟨F2, ρ2, pre, ds, acc, ws, s2, I2, hw, ha, e, rfl, rfl, k2⟩
  cases ds with
  | nil =>
    obtain ⟨hok, k3⟩ := k2
    refine .inl ⟨it.stop _ C F2 ρ2 σ H2 hK s2 I2.tail (hag σ fun _ _ => rfl) hok (by rw [e, List.append_nil]), ?_⟩
    exact q F2 (.ref D) (.own none (.lst acc)) ρ2 H2 (s1.trans s2) I2 k3
  | cons d ds =>
    obtain ⟨hok, hf, k3⟩ := k2
    have hlt : pre.length < S.ds.length := by rw [e]; simp
    refine .inr ⟨it.go _ C F2 ρ2 σ H2 hK s2 I2.tail (hag σ fun _ _ => rfl) hok hlt, fun H => ∃ F3 ρ3 acc ws, Same F1 F3 ∧ SOk C F3 (some (.own none (.lst acc)) :: ρ3) (some (.ref D) :: σ) H ∧ H D = some (.lst ws) ∧ DpAll C.K F3 ws acc ∧ lcRun G U Te vs S.need S.ok ds acc ρ3 (fun acc ρ2 => Kc (.own none (.lst acc)) ρ2),
      fun H' ⟨F3, ρ3, acc, ws, g1, g2, g3, g4, g5⟩ => ⟨ds.length, by simp, F3, ρ3, pre ++ [d], ds, acc, ws, g1, g2, g3, g4, by rw [e]; simp, by simp, rfl, g5⟩, fun x H' y => ?_⟩
    obtain ⟨F3, d', s3, I3, ed, hd, _⟩ := it.yld _ (C.hold F2 D ws) F2 ρ2 σ H2 x H' hK s2 (I2.into (ws := []) hw) (hag σ fun _ _ => rfl) hok hlt y
    have : d' = d := by
      rw [e] at ed
      simpa using ed.symm
    subst this
    have I3' : SOk C F3 (some (.own none (.lst acc)) :: ρ2) (some (.ref D) :: σ) H' := I2.outof (ws := []) (need := []) hw ha trivial s3 I3 rfl fun _ _ => rfl
    have hw3 : H' D = some (.lst ws) := I3.fr D _ (show upd C.B D (.lst ws) D = some (.lst ws) from upd_same)
    have ha3 := dpa_mono s3 _ _ ha
    have I4 : SOk (C.hold F3 D ws) F3 (wipeA ρ2 vs) (wipe σ vs) H' := I3'.into hw3
    refine ⟨C.hold F3 D ws, F3, wipeA ρ2 vs, d', _, hK, I4, hd, k3, fun ρ5 σ5 I5 l5 f5 k5 => ?_⟩
    have hl : σ5.length = σ.length := l5.trans (wipe_length σ vs)
    have hσ : ∀ j : Nat, j ∉ vs → σ5[j]? = σ[j]? := fun j hj => (f5 j fun z => hj (his j z)).trans (wipe_out hj)
    refine ⟨wipe_same vs hσ hl, C.hold F3 D ws, F3, ρ5, _, hK, I5, k5, fun F6 b ρ6 H6 s6 I6 k6 => ?_⟩
    have SS := s2.trans s3
    cases b with
    | false =>
      refine iteF ⟨F6, restA ρ2 ρ6 vs, acc, ws, SS.trans s6, I3'.outof hw3 ha3 hf s6 I6 hl hσ, ?_, dpa_mono s6 _ _ ha3, k6.2 rfl⟩
      exact I6.fr D _ (show upd C.B D (.lst ws) D = some (.lst ws) from upd_same)
    | true =>
      refine iteT ⟨C.hold F3 D ws, F6, ρ6, _, hK, I6, k6.1 rfl, fun F7 v y ρ7 H7 s7 r7 k7 => ?_⟩
      obtain ⟨F8, dy, s8, I8, hd8, hz, k8⟩ := r7.data k7
      have S8 := (s6.trans s7).trans s8
      have I9 := I3'.outof hw3 ha3 hf S8 I8 hl hσ
      have hw9 : H7 D = some (.lst ws) := I8.fr D _ (show upd C.B D (.lst ws) D = some (.lst ws) from upd_same)
      have ha9 := dpa_mono S8 _ _ ha3
      refine ⟨ws, hw9, by rw [dpa_len ha3]; exact hz, F8, restA ρ2 ρ7 vs, acc ++ [dy], ws ++ [v], SS.trans S8, ?_, upd_same, dpa_app ha9 (.cons hd8 .nil), k8⟩
      exact I9.mut (i := 0) rfl rfl (dpa_app ha9 (.cons hd8 .nil))
section
variable {X : Cx}
theorem e_lc {elt tg iter : Expr} {ifs : List Expr} {scope : Scope} {own : List (Str × Nat)} {pos : Pos} {TI : ATI} {G : ATG} {U : ATT} {Te : ATE} {is : List Nat} (hc : X.calm = true) (hN : X.N.Nodup) (hi : AI X tg iter TI) (ok : BlkOk X.N X.env.scope scope own)
    (hg : ∀ (s : Shared) (H : Hp) (C : Addr) (cl : List (Str × Addr)) (fp : List Addr), AG (X.blk s H scope (compEnvC scope cl C X.env) fp) tg is G) (ht : ∀ (s : Shared) (H : Hp) (C : Addr) (cl : List (Str × Addr)) (fp : List Addr), PTs (X.blk s H scope (compEnvC scope cl C X.env) fp) ifs (cT X.K U))
    (he : ∀ (s : Shared) (H : Hp) (C : Addr) (cl : List (Str × Addr)) (fp : List Addr), AE (X.blk s H scope (compEnvC scope cl C X.env) fp) elt Te) (his : ∀ i ∈ is, i ∈ own.map (·.2) := by decide) (hs : ∀ x, foldedSetIterable iter X.env x = pure x := by intro _; rfl) :
    AE X (.ListComp elt [⟨tg, iter, ifs, 0⟩] scope pos) (aLc TI G U Te (own.map (·.2))) := pe_of (pe_lc (g := cG X.K is G) (tt := cT X.K U) (te := cE X.K Te) hc hN hi ok hg ht he hs) (w_lc his)
theorem s_setLc {i : Nat} {y : Str} {py : Pos} {elt tg iter : Expr} {ifs : List Expr} {scope : Scope} {own : List (Str × Nat)} {pos spos : Pos} {TI : ATI} {G : ATG} {U : ATT} {Te : ATE} {is : List Nat} (hc : X.calm = true) (hN : X.N.Nodup) (hy : X.N[i]? = some y) (hyl : X.env.scope.names.lookup y = some .local)
    (hsw : swapsWith (.ListComp elt [⟨tg, iter, ifs, 0⟩] scope pos) (some (.Name y py)) spos.line X.env = pure true) (hi : AI X tg iter TI) (ok : BlkOk X.N X.env.scope scope own)
    (hg : ∀ (s : Shared) (H : Hp) (C : Addr) (cl : List (Str × Addr)) (fp : List Addr), AG (X.blk s H scope (compEnvC scope cl C X.env) fp) tg is G) (ht : ∀ (s : Shared) (H : Hp) (C : Addr) (cl : List (Str × Addr)) (fp : List Addr), PTs (X.blk s H scope (compEnvC scope cl C X.env) fp) ifs (cT X.K U))
    (he : ∀ (s : Shared) (H : Hp) (C : Addr) (cl : List (Str × Addr)) (fp : List Addr), AE (X.blk s H scope (compEnvC scope cl C X.env) fp) elt Te) (his : ∀ i ∈ is, i ∈ own.map (·.2) := by decide) (hs : ∀ x, foldedSetIterable iter X.env x = pure x := by intro _; rfl) :
    AStm X (.Assign [.Name y py] (.ListComp elt [⟨tg, iter, ifs, 0⟩] scope pos) spos) (aSet i (aLc TI G U Te (own.map (·.2)))) :=
  ps_of (ps_setLc (g := cG X.K is G) (tt := cT X.K U) (te := cE X.K Te) hc hN hy hyl hsw hi ok hg ht he hs) fun D σ H h => by
    have h2 := w_set (K := X.K) D σ H h
    exact w_lc his σ H _ h2
theorem ts_nil : PTs X [] (cT X.K aYes) := ⟨fun pins s σ H Q I h => pts_nil.run pins s σ H Q I (by
  obtain ⟨C, F, ρ, Kc, hK, J, h, q⟩ := h
  exact q F true ρ H (Same.refl F) J h)⟩
theorem ts_one {c : Expr} {U : ATT} (h : AT X c U) : PTs X [c] (cT X.K U) := pts_one h
end
end Ab

set_option maxHeartbeats 4000000
/-! Ab7: defs and their calls. -/
namespace Ab
open PySem PySem.Spec PyProof.Rows L2

/-- a def's promise by data: its first argument owned or not, the others' data, what is wanted of the result and of the first argument behind it -/
abbrev ASp := Option OV → List PyData → (AV → Option OV → Prop) → Prop
def argS (oo : Option OV) (ds : List PyData) : AS := (match oo with | some o => [some (.own (some 0) o)] | none => []) ++ ds.map fun d => some (.dat d)
def toSp (K : PySem.W.Frag) (a : ASp) : Sp := fun vs H Q _ => ∃ (C : Fx) (F : Hp) (oo : Option OV) (ds : List PyData) (Kc : AV → Option OV → Prop), C.K = K ∧ SOk C F (argS oo ds) (vs.map some) H ∧ a oo ds Kc ∧ ∀ x oo', Kc x oo' → ∀ F' v H', Same F F' → Res C F' (argS oo' ds) (vs.map some) H' v x → Q v H'
/-- the owned first argument at a def's end -/
def finO : Option (Option AV) → (Option OV → Prop) → Prop
  | some (some (.own (some 0) o)), k => k (some o)
  | _, _ => False
def fin (oo : Option OV) (ρ : AS) (k : Option OV → Prop) : Prop := match oo with
  | none => k none
  | some _ => finO ρ[0]? k
def notAli : AV → Prop → Prop
  | .ali _, _ => False
  | _, p => p
def adOf (oo : Option OV) (Kc : AV → Option OV → Prop) : AD where
  nx := fun ρ => fin oo ρ (Kc (.dat .none))
  rt := fun x ρ => notAli x (fin oo ρ (Kc x))
  bk := fun _ => False
  ct := fun _ => False
theorem SOk.remap {C : Fx} {F : Hp} {ρ ρ2 : AS} {σ σ2 : St} {H : Hp} (J : SOk C F ρ σ H) (m : Nat → Nat) (inj : ∀ i j, m i = m j → i = j) (hl : ρ2.length = σ2.length) (hd : ∀ (i : Nat) d, ρ2[i]? = some (some (.dat d)) → ∃ v, σ2[i]? = some (some v) ∧ Dp C.K F v d)
    (ho : ∀ (i : Nat) t o, ρ2[i]? = some (some (.own t o)) → ρ[m i]? = some (some (.own t o)) ∧ σ2[i]? = σ[m i]?) : SOk C F ρ2 σ2 H := by
  obtain ⟨S, s1, s2, s3⟩ := J.own
  refine ⟨hl, J.fz, J.fr, J.nf, hd, fun i => S (m i), fun i t o q => ?_, fun i b sb => s2 (m i) b sb, fun i j b si sj => inj _ _ (s3 _ _ b si sj)⟩
  obtain ⟨q1, q2⟩ := ho i t o q
  obtain ⟨a, e1, e2, e3⟩ := s1 (m i) t o q1
  exact ⟨a, q2.trans e1, e2, e3⟩
theorem argS_dat {oo : Option OV} {ds : List PyData} {i : Nat} {d : PyData} (h : (argS oo ds)[i]? = some (some (.dat d))) : ∀ oo2 : Option OV, oo2.isSome = oo.isSome → (argS oo2 ds)[i]? = some (some (.dat d)) := fun oo2 e => by
  cases oo with
  | none =>
    cases oo2 with
    | none => exact h
    | some _ => cases e
  | some o =>
    cases oo2 with
    | none => cases e
    | some o2 =>
      cases i with
      | zero => simp [argS] at h
      | succ i => simpa [argS] using h
theorem argS_own {oo : Option OV} {ds : List PyData} {i : Nat} {t : Option Nat} {o : OV} (h : (argS oo ds)[i]? = some (some (.own t o))) : i = 0 ∧ t = some 0 ∧ oo = some o := by
  cases oo with
  | none =>
    simp [argS] at h
  | some o' =>
    cases i with
    | zero =>
      simp [argS] at h
      exact ⟨rfl, h.1.symm, by rw [h.2]⟩
    | succ i => simp [argS] at h
theorem argS_len {oo oo2 : Option OV} {ds : List PyData} (e : oo2.isSome = oo.isSome) : (argS oo2 ds).length = (argS oo ds).length := by
  cases oo <;> cases oo2 <;> simp_all [argS]
theorem fin_ok {oo : Option OV} {ρ : AS} {k : Option OV → Prop} (h : fin oo ρ k) : ∃ oo' : Option OV, oo'.isSome = oo.isSome ∧ k oo' ∧ ∀ o, oo' = some o → ρ[0]? = some (some (.own (some 0) o)) := by
  cases oo with
  | none => exact ⟨none, rfl, h, fun o e => nomatch e⟩
  | some o =>
    have h : finO ρ[0]? k := h
    generalize e : ρ[0]? = q at h
    unfold finO at h
    split at h
    · rename_i o2
      exact ⟨some o2, rfl, h, fun o e2 => by cases e2; first | exact e | rfl⟩
    · exact h.elim
/-- at a def's end: the arguments' state again -/
theorem back {C : Fx} {F F' : Hp} {oo oo' : Option OV} {ds : List PyData} {vs : List V} {H H' : Hp} {ρ' : AS} {σ' : St} {v : V} {x : AV} (I : SOk C F (argS oo ds) (vs.map some) H) (s : Same F F') (h : Res C F' ρ' σ' H' v x) (hx : notAli x True) (e : oo'.isSome = oo.isSome)
    (h0 : ∀ o, oo' = some o → ρ'[0]? = some (some (.own (some 0) o))) : Res C F' (argS oo' ds) (vs.map some) H' v x := by
  have hl : (argS oo' ds).length = (vs.map some).length := (argS_len e).trans I.len
  have hd : ∀ (i : Nat) d, (argS oo' ds)[i]? = some (some (.dat d)) → ∃ v, (vs.map some)[i]? = some (some v) ∧ Dp C.K F' v d := fun i d q => by
    obtain ⟨v, e1, e2⟩ := I.dat i d (argS_dat q oo e.symm)
    exact ⟨v, e1, dp_mono s _ _ e2⟩
  have h00 : ∀ {J : SOk C F' ρ' σ' H'} o, oo' = some o → (vs.map some)[0]? = σ'[0]? := fun {J} o e2 => by
    obtain ⟨S, s1, _, _⟩ := J.own
    obtain ⟨a, f1, f2, f3⟩ := s1 0 _ o (h0 o e2)
    subst e2
    cases oo with
    | none => cases e
    | some o1 =>
      obtain ⟨T, t1, _, _⟩ := I.own
      obtain ⟨a', g1, g2, g3⟩ := t1 0 (some 0) o1 rfl
      have := (g3 0 rfl).symm.trans (f3 0 rfl)
      rw [g1, f1, Option.some.inj this]
  cases x with
  | dat d =>
    obtain ⟨J, hd'⟩ := h
    refine ⟨J.remap id (fun _ _ z => z) hl hd fun i t o q => ?_, hd'⟩
    obtain ⟨rfl, rfl, e2⟩ := argS_own q
    exact ⟨h0 o e2, h00 (J := J) o e2⟩
  | own t2 o2 =>
    have h : SOk C F' (some (.own t2 o2) :: ρ') (some v :: σ') H' := h
    show SOk C F' (some (.own t2 o2) :: argS oo' ds) (some v :: vs.map some) H'
    refine h.remap id (fun _ _ z => z) (by simp [hl]) (fun i d q => ?_) fun i t o q => ?_
    · cases i with
      | zero => simp at q
      | succ i => simpa using hd i d (by simpa using q)
    · cases i with
      | zero => exact ⟨q, rfl⟩
      | succ i =>
        obtain ⟨rfl, rfl, e2⟩ := argS_own (by simpa using q)
        exact ⟨by simpa using h0 o e2, by simpa using h00 (J := h.tail) o e2⟩
  | ali i => exact hx.elim
theorem notAli_ok {x : AV} {p : Prop} (h : notAli x p) : notAli x True ∧ p := by
  cases x with
  | ali i => exact h.elim
  | dat d => exact ⟨trivial, h⟩
  | own t o => exact ⟨trivial, h⟩

section
variable {P : Program} {w : World} {K : PySem.W.Frag} {mg : Str → Option Value} {base : Heap}
theorem start_ok {C : Fx} {F H : Hp} {oo : Option OV} {ds : List PyData} {vs : List V} (I : SOk C F (argS oo ds) (vs.map some) H) {N ps : List Str} (hl : (argS oo ds).length = ps.length) : SOk C F (argS oo ds ++ List.replicate (N.length - ps.length) none) (L2.start N vs) H := by
  have hv : vs.length = ps.length := by
    have := I.len
    rw [List.length_map] at this
    omega
  refine I.weak (by unfold L2.start; simp [hl, hv]) fun i x q => ?_
  by_cases hi : i < (argS oo ds).length
  · rw [List.getElem?_append_left hi] at q
    refine ⟨q, ?_⟩
    unfold L2.start
    rw [List.getElem?_append_left (by simp; omega)]
  · rw [List.getElem?_append_right (by omega), List.getElem?_replicate] at q
    split at q
    · simp at q
    · cases q
/-- THE RULE of a def -/
theorem ok_def {x qual : Str} {st : Stmt} {f : Addr} {fd : FuncData} {N ps : List Str} {k : Nat} {a : ASp} {T : ATS} (F : Fun K x qual st f fd) (S : FnScope N ps (defScope st)) (len : ∀ oo ds Kc, a oo ds Kc → (argS oo ds).length = ps.length)
    (hb : ∀ (cdv : Value) (A : Around) (outer : List Env) (s : Shared) (H : Hp) (E : XK), Room k (A.deeper (envOfC qual (defScope st) s.heap.objs.size f cdv)) → ASs (cxOf CX0 P w K mg base N qual (defScope st) f cdv A outer s H E).nox (defBody st) T)
    (hr : ∀ oo ds Kc, a oo ds Kc → T (adOf oo Kc) (argS oo ds ++ List.replicate (N.length - ps.length) none)) : FnOk P w K mg base CX0 (k + 1) f fd ps (toSp K a) := by
  refine F.ok S (fun vs H Q E h => ?_) (fun cdv A outer s H vs Q E hroom h => ?_)
  · obtain ⟨C, Fz, oo, ds, Kc, hK, I, h, _⟩ := h
    have := I.len
    rw [len _ _ _ h, List.length_map] at this
    exact this.symm
  · refine ⟨cS K T, hb cdv A outer s H E hroom, ?_⟩
    obtain ⟨C, Fz, oo, ds, Kc, hK, I, h, hq⟩ := h
    refine ⟨C, Fz, _, _, hK, start_ok I (len _ _ _ h), hr _ _ _ h, fun F' ρ' σ' H' s1 J k1 => ?_, fun F' ρ' σ' H' v x s1 J k1 => ?_, fun _ _ _ _ _ _ z => z.elim, fun _ _ _ _ _ _ z => z.elim⟩
    · obtain ⟨oo', e1, k2, h0⟩ := fin_ok k1
      exact hq _ _ k2 F' .non H' s1 (back (x := .dat .none) I s1 ⟨J, .non⟩ trivial e1 h0)
    · obtain ⟨hx, k1⟩ := notAli_ok k1
      obtain ⟨oo', e1, k2, h0⟩ := fin_ok k1
      exact hq _ _ k2 F' v H' s1 (back I s1 J hx e1 h0)
end

/-! ### calls -/
def ownO : Option (Option AV) → (Option Nat → OV → Prop) → Prop
  | some (some (.own t (.lst ds))), k => k t (.lst ds)
  | _, _ => False
theorem ownO_ok {q : Option (Option AV)} {k : Option Nat → OV → Prop} (h : ownO q k) : ∃ t ds, q = some (some (.own t (.lst ds))) ∧ k t (.lst ds) := by
  unfold ownO at h
  split at h
  · exact ⟨_, _, rfl, h⟩
  · exact h.elim
def getO : Option OV → (OV → Prop) → Prop
  | some (.lst ds), k => k (.lst ds)
  | _, _ => False
def onlyDat : AV → Prop → Prop
  | .dat _, p => p
  | _, _ => False
def callA (a : ASp) : List AV → AS → (AV → AS → Prop) → Prop
  | .ali i :: r, ρ, K => das r fun ds => ownO ρ[i]? fun t o => a (some o) ds fun x oo' => onlyDat x (getO oo' fun o' => K x (ρ.set i (some (.own t o'))))
  | xs, ρ, K => das xs fun ds => a none ds fun x oo' => oo' = none ∧ notAli x (K x ρ)
def aCall (a : ASp) (Ta : ATA) : ATE := fun ρ K => Ta ρ fun xs ρ1 => callA a xs ρ1 K
abbrev OwnS (C : Fx) (F : Hp) (ρ : AS) (σ : St) (H : Hp) (S : Nat → Addr → Prop) : Prop := (∀ (i : Nat) t o, ρ[i]? = some (some (.own t o)) → ∃ a, σ[i]? = some (some (.ref a)) ∧ Ho C.K F H a (S i) o ∧ ∀ j, t = some j → C.anc j = some a) ∧
    (∀ i b, S i b → F b = none ∧ C.B b = none ∧ H b ≠ none) ∧ ∀ i j b, S i b → S j b → i = j
theorem SOk.callee {C : Fx} {F F' : Hp} {ρ : AS} {σ : St} {H H' : Hp} (I : SOk C F ρ σ H) (s : Same F F') (f : Same F' H') (g : Same H H') (n : ∀ b o, F' b = some o → F b = some o ∨ H b = none ∨ ∃ xs, o = .tup xs) : SOk C F' ρ σ H' ∧ ∃ S, OwnS C F' ρ σ H' S ∧ ∀ i b, S i b → H b ≠ none := by
  obtain ⟨S, s1, s2, s3⟩ := I.own
  have hH : ∀ i b, S i b → H' b = H b := fun i b sb => by
    obtain ⟨n1, n2, n3⟩ := s2 i b sb
    cases q : H b with
    | none => exact absurd q n3
    | some u => exact g b u q
  have nF : ∀ i b, (S i b ∧ ∃ t o, ρ[i]? = some (some (.own t o))) → F' b = none := fun i b ⟨sb, t, o, eo⟩ => by
    cases q : F' b with
    | none => rfl
    | some u =>
      obtain ⟨n1, n2, n3⟩ := s2 i b sb
      rcases n b u q with z | z | ⟨xs, z⟩
      · rw [n1] at z; cases z
      · exact absurd z n3
      · subst z
        obtain ⟨a, e1, e2, e3⟩ := s1 i t o eo
        exact absurd ((hH i b sb).symm.trans (f b _ q)) (ho_nt e2 sb xs)
  have w : OwnS C F' ρ σ H' (fun i b => S i b ∧ ∃ t o, ρ[i]? = some (some (.own t o))) := ⟨fun i t o q => by
    obtain ⟨a, e1, e2, e3⟩ := s1 i t o q
    have : (fun b => S i b ∧ ∃ t o, ρ[i]? = some (some (.own t o))) = S i := by
      funext b
      simp [q]
    refine ⟨a, e1, ?_, e3⟩
    show Ho C.K F' H' a (fun b => S i b ∧ ∃ t o, ρ[i]? = some (some (.own t o))) o
    rw [this]
    exact ho_mono s (fun b sb => hH i b sb) e2, fun i b sb => by
    obtain ⟨n1, n2, n3⟩ := s2 i b sb.1
    exact ⟨nF i b sb, n2, by rw [hH i b sb.1]; exact n3⟩, fun i j b si sj => s3 i j b si.1 sj.1⟩
  refine ⟨⟨I.len, f, I.fr.trans g, fun b o q => ?_, fun i d q => ?_, _, w⟩, _, w, fun i b sb => (s2 i b sb.1).2.2⟩
  · rcases n b o q with z | z | z
    · exact I.nf b o z
    · exact .inr (.inl (I.bnone z))
    · exact .inr (.inr z)
  · obtain ⟨v, e1, e2⟩ := I.dat i d q
    exact ⟨v, e1, dp_mono s _ _ e2⟩
/-- a fresh owned object of a callee joins the caller's state -/
theorem SOk.join {C C' : Fx} {F : Hp} {ρ ρ2 : AS} {σ σ2 : St} {H H' : Hp} {v : V} {t : Option Nat} {o : OV} (hK : C'.K = C.K) (I : SOk C F ρ σ H') (J : SOk C' F (some (.own t o) :: ρ2) (some v :: σ2) H') (hS : ∀ b, C'.B b = none → C.B b = none) (S : Nat → Addr → Prop) (hown : OwnS C F ρ σ H' S) (old : ∀ i b, S i b → C'.B b ≠ none)
    (ht : ∀ j, t = some j → C.anc j = C'.anc j) : SOk C F (some (.own t o) :: ρ) (some v :: σ) H' := by
  obtain ⟨s1, s2, s3⟩ := hown
  obtain ⟨T, t1, t2, t3⟩ := J.own
  obtain ⟨a, e1, e2, e3⟩ := t1 0 t o rfl
  -- only the slots' own addresses count
  refine ⟨by simp [I.len], I.fz, I.fr, I.nf, fun i d q => ?_, fun i b => match i with | 0 => T 0 b | i + 1 => S i b ∧ ∃ t o, ρ[i]? = some (some (.own t o)), fun i t' o' q => ?_, fun i b sb => ?_, fun i j b si sj => ?_⟩
  · cases i with
    | zero => simp at q
    | succ i => simpa using I.dat i d (by simpa using q)
  · cases i with
    | zero =>
      simp at q
      obtain ⟨rfl, rfl⟩ := q
      exact ⟨a, e1, by rw [← hK]; exact e2, fun j e => (ht j e).trans (e3 j e)⟩
    | succ i =>
      have q : ρ[i]? = some (some (.own t' o')) := by simpa using q
      obtain ⟨c, f1, f2, f3⟩ := s1 i t' o' q
      refine ⟨c, by simpa using f1, ?_, f3⟩
      have : (fun b => S i b ∧ ∃ t o, ρ[i]? = some (some (.own t o))) = S i := by
        funext b
        simp [q]
      show Ho C.K F H' c (fun b => S i b ∧ ∃ t o, ρ[i]? = some (some (.own t o))) o'
      rw [this]
      exact f2
  · cases i with
    | zero =>
      obtain ⟨n1, n2, n3⟩ := t2 0 b sb
      exact ⟨n1, hS b n2, n3⟩
    | succ i => exact s2 i b sb.1
  · have cross : ∀ i, T 0 b → (S i b ∧ ∃ t o, ρ[i]? = some (some (.own t o))) → False := fun i h1 h2 => old i b h2.1 (t2 0 b h1).2.1
    cases i with
    | zero =>
      cases j with
      | zero => rfl
      | succ j => exact (cross j si sj).elim
    | succ i =>
      cases j with
      | zero => exact (cross i sj si).elim
      | succ j => rw [s3 i j b si.1 sj.1]
theorem das_map : ∀ {ds : List PyData} {vs : List V} {K : PySem.W.Frag} {F : Hp}, DpAll K F vs ds → ∀ (i : Nat) d, (ds.map fun d => some (AV.dat d))[i]? = some (some (.dat d)) → ∃ v, (vs.map some)[i]? = some (some v) ∧ Dp K F v d := fun {ds vs K F} h i d q => by
  rw [List.getElem?_map] at q
  cases e : ds[i]? with
  | none => rw [e] at q; cases q
  | some d' =>
    rw [e] at q
    have : d' = d := by simpa using q
    subst this
    obtain ⟨v, e1, e2⟩ := dpa_get h e
    exact ⟨v, by rw [List.getElem?_map, e1]; rfl, e2⟩
theorem w_callData {K : PySem.W.Frag} {a : ASp} {E : XK} {xs : List AV} {C : Fx} {F : Hp} {ρ : AS} {σ : St} {H : Hp} {vs : List V} {Q : VK} {Kc : AV → AS → Prop} (hK : C.K = K) (I : SOk C F ρ σ H) (ha : ArgsOk C F σ vs xs)
    (h : das xs fun ds => a none ds fun x oo' => oo' = none ∧ notAli x (Kc x ρ)) (q : ∀ F' v x ρ' H', Same F F' → Res C F' ρ' σ H' v x → Kc x ρ' → Q v H') : toSp K a vs H Q E := by
  obtain ⟨ds, hd, h⟩ := das_ok ha h
  refine ⟨⟨C.K, H, F, fun _ => none⟩, F, none, ds, _, hK, ⟨?_, I.fz, Same.refl H, fun b o e => .inl e, fun i d e => ?_, fun _ _ => False, fun i t o e => ?_, fun _ _ z => z.elim, fun _ _ _ z => z.elim⟩, h, ?_⟩
  · simp [argS, dpa_len hd]
  · exact das_map hd i d (by simpa [argS] using e)
  · simp [argS] at e
  · subst hK
    intro x oo' ⟨hoo, k⟩ F' v H' s1 r
    subst hoo
    obtain ⟨hx, k⟩ := notAli_ok k
    have J := r.ok
    have g : Same H H' := J.fr
    obtain ⟨I', S, hS, hSn⟩ := I.callee s1 J.fz g fun b o e => J.nf b o e
    refine q F' v x ρ H' s1 ?_ k
    cases x with
    | dat d => exact ⟨I', r.2⟩
    | own t o =>
      have r : SOk ⟨C.K, H, F, fun _ => none⟩ F' (some (.own t o) :: argS none ds) (some v :: vs.map some) H' := r
      refine SOk.join (H := H) (C' := ⟨C.K, H, F, fun _ => none⟩) rfl I' r (fun b hb => I.bnone hb) S hS hSn (fun j e => ?_)
      · obtain ⟨S, s1, s2, s3⟩ := r.own
        obtain ⟨c, f1, f2, f3⟩ := s1 0 t o rfl
        have := f3 j e
        cases this
    | ali i => exact hx.elim
theorem w_callOwn {a : ASp} {E : XK} {i : Nat} {r : List AV} {C : Fx} {F : Hp} {ρ : AS} {σ : St} {H : Hp} {vs : List V} {Q : VK} {Kc : AV → AS → Prop} (I : SOk C F ρ σ H) (ha : ArgsOk C F σ vs (.ali i :: r))
    (h : das r fun ds => ownO ρ[i]? fun t o => a (some o) ds fun x oo' => onlyDat x (getO oo' fun o' => Kc x (ρ.set i (some (.own t o'))))) (q : ∀ F' v x ρ' H', Same F F' → Res C F' ρ' σ H' v x → Kc x ρ' → Q v H') : toSp C.K a vs H Q E := by
  cases ha with
  | @cons v0 _ vs' _ h0 hr =>
  have h0 : σ[i]? = some (some v0) := h0
  obtain ⟨ds, hd, h⟩ := das_ok hr h
  obtain ⟨t, xs0, e, h⟩ := ownO_ok h
  have I0 := I
  obtain ⟨S, s1, s2, s3⟩ := I.own
  obtain ⟨c, f1, f2, f3⟩ := s1 i t _ e
  have : v0 = .ref c := by rw [h0] at f1; simpa using f1
  subst this
  have sc : S i c := (f2.1 c).mpr rfl
  obtain ⟨n1, n2, n3⟩ := s2 i c sc
  have hB : ∀ b, (if b = c then none else H b) = none → b = c ∨ H b = none := fun b z => by
    by_cases hb : b = c
    · exact .inl hb
    · rw [if_neg hb] at z
      exact .inr z
  have hBC : ∀ b, (if b = c then none else H b) = none → C.B b = none := fun b z => by
    rcases hB b z with rfl | z
    · exact n2
    · exact I.bnone z
  refine ⟨⟨C.K, fun b => if b = c then none else H b, F, fun j => if j = 0 then some c else none⟩, F, some (.lst xs0), ds, _, rfl, ⟨?_, I.fz, fun b u z => ?_, fun b u z => .inl z, fun j d z => ?_, fun j b => j = 0 ∧ b = c, fun j t' o' z => ?_, fun j b z => ?_, fun j k b z z' => z.1.trans z'.1.symm⟩, h, ?_⟩
  · simp [argS, dpa_len hd]
  · have z : (if b = c then none else H b) = some u := z
    by_cases hb : b = c
    · rw [if_pos hb] at z; cases z
    · rw [if_neg hb] at z; exact z
  · cases j with
    | zero => simp [argS] at z
    | succ j =>
      obtain ⟨v, g1, g2⟩ := das_map hd j d (by simpa [argS] using z)
      exact ⟨v, by simpa using g1, g2⟩
  · obtain ⟨rfl, rfl, e2⟩ := argS_own z
    cases e2
    refine ⟨c, rfl, ?_, fun j ej => ?_⟩
    · exact ⟨fun b => by simp, f2.2⟩
    · cases ej
      show (if (0 : Nat) = 0 then some c else none) = some c
      rw [if_pos rfl]
  · obtain ⟨rfl, rfl⟩ := z
    exact ⟨n1, by show (if b = b then none else H b) = none; rw [if_pos rfl], n3⟩
  · intro x oo' k F' v H' w1 r
    cases x with
    | own _ _ => exact k.elim
    | ali _ => exact k.elim
    | dat d =>
    have k : getO oo' fun o' => Kc (.dat d) (ρ.set i (some (.own t o'))) := k
    cases oo' with
    | none => exact k.elim
    | some o'' =>
      obtain ⟨xs1, ho, k⟩ : ∃ xs1, o'' = .lst xs1 ∧ Kc (.dat d) (ρ.set i (some (.own t (.lst xs1)))) := by
        cases o'' with
        | lst xs1 => exact ⟨xs1, rfl, k⟩
        | dls _ => exact k.elim
      subst ho
      have J := r.ok
      have g : ∀ b u, b ≠ c → H b = some u → H' b = some u := fun b u hb z => J.fr b u (by show (if b = c then none else H b) = some u; rw [if_neg hb]; exact z)
      obtain ⟨T, t1, t2, t3⟩ := J.own
      obtain ⟨c', g1, g2, g3⟩ := t1 0 (some 0) (.lst xs1) rfl
      have hc : c' = c := by simpa using g1.symm
      subst hc
      have tc : ∀ b, T 0 b ↔ b = c' := g2.1
      have nf : ∀ b u, F' b = some u → F b = some u ∨ (b = c' ∨ H b = none) ∨ ∃ xs, u = .tup xs := fun b u z => by
        rcases J.nf b u z with z | z | z
        · exact .inl z
        · exact .inr (.inl (hB b z))
        · exact .inr (.inr z)
      have Fc : F' c' = none := (t2 0 c' ((tc c').mpr rfl)).1
      have nS : ∀ j b, S j b → j ≠ i → b ≠ c' := fun j b sb hj z => by
        subst z
        exact hj (s3 _ _ _ sb sc)
      -- the caller's state behind the call
      have I' : SOk C F' (ρ.set i (some (.own t (.lst xs1)))) σ H' := by
        refine ⟨by simp [I.len], J.fz, fun b u z => g b u (fun z2 => by subst z2; rw [n2] at z; cases z) (I.fr b u z), fun b u z => ?_, fun j d z => ?_, fun j b => (S j b ∧ ∃ t o, ρ[j]? = some (some (AV.own t o))) ∧ (j = i → b = c'), fun j t' oj z => ?_, fun j b z => ?_, fun j k b z z' => s3 j k b z.1.1 z'.1.1⟩
        · rcases nf b u z with z | (z | z) | z
          · exact I.nf b u z
          · subst z
            exact .inr (.inl n2)
          · exact .inr (.inl (I.bnone z))
          · exact .inr (.inr z)
        · rw [List.getElem?_set] at z
          split at z
          · split at z
            · simp at z
            · cases z
          · obtain ⟨v, z1, z2⟩ := I.dat j d z
            exact ⟨v, z1, dp_mono w1 _ _ z2⟩
        · rw [List.getElem?_set] at z
          split at z
          · rename_i hij
            subst hij
            split at z
            · simp at z
              obtain ⟨rfl, rfl⟩ := z
              refine ⟨c', f1, ?_, f3⟩
              refine ⟨fun b => ⟨fun z => z.2 rfl, fun z => ?_⟩, g2.2⟩
              subst z
              exact ⟨⟨sc, _, _, e⟩, fun _ => rfl⟩
            · cases z
          · rename_i hij
            have hji : j ≠ i := fun z => hij z.symm
            obtain ⟨cj, z1, z2, z3⟩ := s1 j t' oj z
            refine ⟨cj, z1, ?_, z3⟩
            have e1 : (fun b => (S j b ∧ ∃ t o, ρ[j]? = some (some (AV.own t o))) ∧ (j = i → b = c')) = S j := by
              funext b
              simp [hji, z]
            show Ho C.K F' H' cj (fun b => (S j b ∧ ∃ t o, ρ[j]? = some (some (AV.own t o))) ∧ (j = i → b = c')) oj
            rw [e1]
            refine ho_mono w1 (fun b sb => ?_) z2
            obtain ⟨_, _, m3⟩ := s2 j b sb
            cases q : H b with
            | none => exact absurd q m3
            | some u => exact g b u (nS j b sb hji) q
        · obtain ⟨⟨sb, t9, o9, e9⟩, sb2⟩ := z
          obtain ⟨m1, m2, m3⟩ := s2 j b sb
          refine ⟨?_, m2, ?_⟩
          · cases q : F' b with
            | none => rfl
            | some u =>
              rcases nf b u q with z | (z | z) | ⟨xs, z⟩
              · rw [m1] at z; cases z
              · subst z
                rw [Fc] at q
                cases q
              · exact absurd z m3
              · subst z
                by_cases hb : b = c'
                · subst hb
                  rw [Fc] at q
                  cases q
                · obtain ⟨a9, f9, f10, f11⟩ := s1 j t9 o9 e9
                  cases q2 : H b with
                  | none => exact absurd q2 m3
                  | some u2 =>
                    have q3 := g b u2 hb q2
                    have q4 := J.fz b _ q
                    rw [q3] at q4
                    exact absurd (q2.trans q4) (ho_nt f10 sb xs)
          · by_cases hj : j = i
            · rw [sb2 hj]
              exact (t2 0 c' ((tc c').mpr rfl)).2.2
            · cases q : H b with
              | none => exact absurd q m3
              | some u => rw [g b u (nS j b sb hj) q]; simp
      exact q F' v (.dat d) _ H' w1 ⟨I', r.2⟩ k
theorem w_call {K : PySem.W.Frag} {a : ASp} {E : XK} {Ta : ATA} : ∀ σ H Q, cE K (aCall a Ta) σ H Q → tCall (toSp K a) [] E (cA K Ta) σ H Q := fun σ H Q ⟨C, F, ρ, Kc, hK, I, h, q⟩ => by
  refine ⟨C, F, ρ, _, hK, I, h, fun F1 vs xs ρ1 H1 s1 I1 h1 k1 => ?_⟩
  show toSp K a (vs ++ []) H1 Q E
  rw [List.append_nil]
  have q' : ∀ F' v x ρ' H', Same F1 F' → Res C F' ρ' σ H' v x → Kc x ρ' → Q v H' := fun F' v x ρ' H' s2 r k => q F' v x ρ' H' (s1.trans s2) r k
  cases xs with
  | nil => exact w_callData hK I1 h1 k1 q'
  | cons x r =>
    cases x with
    | dat d => exact w_callData hK I1 h1 k1 q'
    | own t o => exact w_callData hK I1 h1 k1 q'
    | ali i =>
      subst hK
      exact w_callOwn I1 h1 k1 q'
section
variable {X : Cx} {k : Nat} {f : Addr} {fd : FuncData} {ps : List Str} {a : ASp} {x : Str} {p pos : Pos} {e : Expr} {es : List Expr} {Ta : ATA}
theorem e_call (F : FnOk X.prog X.w X.K X.mg X.base CX0 k f fd ps (toSp X.K a)) (hr : Room k X.A) (hg : Gl X x) (hm : X.mg x = some (.ref f)) (hk : PySem.W.keepIn X.K (.ref f) = true) (hb : Binds X.K fd ps [])
    (ha : AA X (e :: es) Ta) (hdb : (x == ("__debug__" : Str)) = false := by decide) (he : starEach (e :: es) X.env = (false, eval e X.env) :: starEach es X.env := by rfl) (hpl : (backTo pos (starEach es X.env)).any (·.1) = false := by rfl) :
    AE X (.Call (.Name x p) (e :: es) [] pos) (aCall a Ta) := pe_of (pe_call F hr hg hm hk hb .nil pass0 ha hdb he hpl) w_call
end
end Ab

set_option maxHeartbeats 4000000
/-! Ab8: truth, + of data, repeated lists, tuple(range). -/
namespace Ab
open PySem PySem.Spec PyProof.Rows L2

/-! truth of any value -/
def truS (ρ : AS) : AV → (Bool → Prop) → Prop
  | .dat .none, k => k false
  | .dat (.bool b), k => k b
  | .dat (.int i), k => k (i != 0)
  | x, k => cont ρ x fun _ ds => k (!ds.isEmpty)
def aTru (T : ATE) : ATT := fun ρ K => T ρ fun x ρ' => arg x fun y => truS ρ' y fun b => K b ρ'
theorem isEmpty_dp {K : PySem.W.Frag} {F : Hp} {vs : List V} {ds : List PyData} (h : DpAll K F vs ds) : vs.isEmpty = ds.isEmpty := by
  cases h <;> rfl
section
variable {X : Cx} {e a b : Expr} {Te Ta Tb : ATE} {pos : Pos}
theorem t_truth (ha : AE X e Te) (he : ∀ whole, isTrue e X.env whole = (do let v ← whole; standAt e.pos; holding [v] (truthy v)) := by exact fun _ => rfl) : AT X e (aTru Te) := pt_of (pt_truth ha he) fun σ H Q ⟨C, F, ρ, Kc, hK, I, h, q⟩ => by
  refine ⟨C, F, ρ, _, hK, I, h, fun F1 v x ρ1 H1 s1 r1 k1 => ?_⟩
  obtain ⟨F2, y, s2, I2, hy, k2⟩ := r1.arg k1
  have seqs : cont ρ1 y (fun _ ds => Kc (!ds.isEmpty) ρ1) → ∃ k, TruV X.K v H1 k ∧ Q k H1 := fun k2 => by
    obtain ⟨a, vs, b, ds, rfl, h3, _, h4, k3⟩ := hy.cont I2 k2
    rw [hK] at h3
    refine ⟨!ds.isEmpty, ?_, q F2 _ ρ1 H1 (s1.trans s2) I2 k3⟩
    cases b with
    | true => exact .inl ⟨vs, h3, by rw [isEmpty_dp h4]⟩
    | false => exact .inr (.inl ⟨vs, h3, by rw [isEmpty_dp h4]⟩)
  cases y with
  | dat d =>
    have hy' : Dp C.K F2 v d := hy
    cases hy' with
    | non => exact ⟨false, rfl, q F2 _ ρ1 H1 (s1.trans s2) I2 k2⟩
    | bl b => exact ⟨b, rfl, q F2 _ ρ1 H1 (s1.trans s2) I2 k2⟩
    | int i => exact ⟨i != 0, rfl, q F2 _ ρ1 H1 (s1.trans s2) I2 k2⟩
    | str x => exact seqs k2
    | lst hs ha => exact seqs k2
    | tup hs ha => exact seqs k2
  | own t o => exact seqs k2
  | ali i => exact seqs k2

/-! + : ints, tuples -/
def rCatT2 (K : PySem.W.Frag) : R2 := fun x y H Q => ∃ a b xs ys, x = .ref a ∧ y = .ref b ∧ SqT K H a xs ∧ SqT K H b ys ∧ xs.length + ys.length ≤ sizeLine ∧ (ys = [] → Q (.ref a) H) ∧ (xs = [] → Q (.ref b) H) ∧ (∀ p, H p = none → Q (.ref p) (upd H p (.tup (xs ++ ys))))
end
section
open PySem.SeqAt
open PySem.AutoSeq1 (wpAny_loadPart')
open PySem.MeetsSeq PySem.MeetsSeq2 PySem.MeetsSeq3
theorem tuple_add_nil (l b : Addr) (its2 : Array Value) (n n2 : Nat) (dd dd2 : Option Addr) (sl sl2 : Array (Option Value)) :
    Meets (Builtin.«tuple.__add__» ⟨[.ref l, .ref b], []⟩)
      (fun _ R s => s.heap.get? l = some { cls := .type "tuple", dict := dd, data := .seq #[] n, slots := sl } ∧ s.heap.get? b = some { cls := .type "tuple", dict := dd2, data := .seq its2 n2, slots := sl2 } ∧
        R (.ok (.ret (.ref b))) s) :=
  .of_wp fun prog w A R s h => by
    obtain ⟨hp, g, d, tk, os⟩ := s; obtain ⟨hl, hb, h⟩ := h
    have f2 := AutoSeq1.sub_tuple_tuple
    wp_walk using wpAny_loadPart' hl, wpAny_loadPart' hb
    all_goals first | exact h | (exact ⟨_, rfl, h⟩) | trace_state
end

section
variable {X : Cx} {e a b : Expr} {Te Ta Tb : ATE} {pos : Pos}
theorem op_catT2 : OpR X (binaryOp .Add) (rCatT2 X.K) := by
  intro pins s σ H x y v u Q I rx ry h
  obtain ⟨a, b, xs, ys, rfl, rfl, ha, hb, hz, q1, q2, q3⟩ := h
  cases xs with
  | cons x xs => exact op_catT pins s σ H _ _ v u Q I rx ry ⟨a, b, x :: xs, ys, rfl, rfl, ha, hb, by simp, hz, q1, fun _ => q3⟩
  | nil =>
    cases rx
    cases ry
    obtain ⟨its, r1, p1, _⟩ := I.tuple ha
    obtain ⟨its2, r2, p2, _⟩ := I.tuple hb
    cases r1
    obtain ⟨⟨cls, dd, data, sl⟩, ho, hc, n, hd⟩ := id p1
    obtain ⟨⟨cls2, dd2, data2, sl2⟩, ho2, hc2, n2, hd2⟩ := id p2
    simp only at hc hd hc2 hd2
    subst hc hd hc2 hd2
    exact concat_meets ⟨_, ho, rfl⟩ ⟨_, ho2, rfl⟩ noFill_tuple_add seq_tuple_add PySem.F.slot_tuple_add PySem.F.entry_tuple_add (PySem.F.args_tuple_add_2 _ _)
      (tuple_add_nil a b its2.toArray n n2 dd dd2 sl sl2) ⟨ho, ho2, .ref b, H, I, rfl, q2 rfl⟩
def rAddU (K : PySem.W.Frag) : R2 := fun x y H Q => rI0 (fun i j => .int (i + j)) x y H Q ∨ rCatT2 K x y H Q
theorem op_addU : OpR X (binaryOp .Add) (rAddU X.K) := by
  intro pins s σ H x y v u Q I rx ry h
  rcases h with h | h
  · exact op_add pins s σ H x y v u Q I rx ry h
  · exact op_catT2 pins s σ H x y v u Q I rx ry h
def sAddU : S2
  | .int i, .int j, k => k (.int (i + j))
  | .tuple xs, .tuple ys, k => xs.length + ys.length ≤ sizeLine ∧ k (.tuple (xs ++ ys))
  | _, _, _ => False
theorem dr_addU {K : PySem.W.Frag} : DR2 K (rAddU K) sAddU := fun C F ρ σ H x y dx dy Q Kd hK I hx hy h q => by
  cases hx with
  | int i =>
    cases hy with
    | int j => exact .inl ⟨i, j, rfl, rfl, q F _ _ H (Same.refl F) I (.int _) h⟩
    | _ => exact h.elim
  | tup hs ha =>
    cases hy with
    | tup hs2 ha2 =>
      obtain ⟨hz, h⟩ := h
      subst hK
      refine .inr ⟨_, _, _, _, rfl, rfl, same_t I.fz hs, same_t I.fz hs2, by rw [dpa_len ha, dpa_len ha2]; exact hz, fun e => ?_, fun e => ?_, fun p hp => ?_⟩
      · subst e
        cases ha2
        refine q F _ _ H (Same.refl F) I ?_ h
        rw [List.append_nil]
        exact .tup hs ha
      · subst e
        cases ha
        exact q F _ _ H (Same.refl F) I (.tup hs2 ha2) h
      · exact q _ _ _ _ (same_upd' (I.fnone hp)) (I.imm hp) (dp_tup upd_same (dpa_mono (same_upd' (I.fnone hp)) _ _ (dpa_app ha ha2))) h
    | _ => exact h.elim
  | _ => exact h.elim

/-! xs * k, xs a new list -/
theorem SOk.freeze' {C : Fx} {F : Hp} {ρ : AS} {σ : St} {H : Hp} {v : V} {t : Option Nat} {ds : List PyData} (I : SOk C F (some (.own t (.lst ds)) :: ρ) (some v :: σ) H) : ∃ F' a vs, Same F F' ∧ SOk C F' ρ σ H ∧ v = .ref a ∧ F' a = some (.lst vs) ∧ DpAll C.K F' vs ds := by
  obtain ⟨F', s, J, hd⟩ := I.freeze
  obtain ⟨a, vs, e1, e2, e3⟩ := I.at_own (i := 0) rfl
  have hv : v = .ref a := by simpa using e1
  have J2 := I.tail
  obtain ⟨S, s1, s2, s3⟩ := I.own
  obtain ⟨a', g1, ⟨g2, vs', g3, g4⟩, _⟩ := s1 0 t (.lst ds) rfl
  have : a' = a := by rw [e1] at g1; simpa using g1.symm
  subst this
  have sa : S 0 a' := (g2 a').mpr rfl
  obtain ⟨n1, n2, n3⟩ := s2 0 a' sa
  have e : Same F (upd F a' (.lst vs)) := same_upd' n1
  refine ⟨upd F a' (.lst vs), a', vs, e, ?_, hv, upd_same, dpa_mono e _ _ e3⟩
  refine ⟨J2.len, fun b u q => ?_, J2.fr, fun b u q => ?_, fun i d q => ?_, fun i b => S (i + 1) b, fun i t' o q => ?_, fun i b sb => ?_, fun i j b si sj => ?_⟩
  · by_cases hb : b = a'
    · subst hb
      rw [upd_same] at q
      cases q
      exact e2
    · rw [upd_ne hb] at q
      exact I.fz b u q
  · by_cases hb : b = a'
    · subst hb
      exact .inr (.inl n2)
    · rw [upd_ne hb] at q
      exact I.nf b u q
  · obtain ⟨w, q1, q2⟩ := J2.dat i d q
    exact ⟨w, q1, dp_mono e _ _ q2⟩
  · obtain ⟨c, f1, f2, f3⟩ := s1 (i + 1) t' o (by simpa using q)
    exact ⟨c, by simpa using f1, ho_mono e (fun _ _ => rfl) f2, f3⟩
  · have hb : b ≠ a' := fun z => by
      subst z
      have := s3 _ _ _ sb sa
      omega
    rw [upd_ne hb]
    exact s2 (i + 1) b sb
  · have := s3 _ _ b si sj
    omega
theorem dpa_rep {K : PySem.W.Frag} {F : Hp} {vs : List V} {ds : List PyData} (h : DpAll K F vs ds) : ∀ k : Nat, DpAll K F (List.replicate k vs).flatten (List.replicate k ds).flatten
  | 0 => .nil
  | k + 1 => by
    rw [List.replicate_succ, List.replicate_succ, List.flatten_cons, List.flatten_cons]
    exact dpa_app h (dpa_rep h k)
def aRep (Ta Tb : ATE) : ATE := fun ρ K => Ta ρ fun x ρ1 => ownL (some (some x)) fun _ ds => Tb ρ1 fun y ρ2 => dd y fun dy => iD dy fun k => -(2 ^ 63) ≤ k ∧ k < 2 ^ 63 ∧ ds.length * k.toNat ≤ sizeLine ∧ K (.own none (.lst (List.replicate k.toNat ds).flatten)) ρ2
theorem e_rep (ha : AE X a Ta) (hb : AE X b Tb) : AE X (.BinOp a .Mult b pos) (aRep Ta Tb) := pe_of (pe_op op_rep ha hb) fun σ H Q ⟨C, F, ρ, Kc, hK, I, h, q⟩ => by
  refine ⟨C, F, ρ, _, hK, I, h, fun F1 v x ρ1 H1 s1 r1 k1 => ?_⟩
  obtain ⟨t, ds, hx, k2⟩ := ownL_ok k1
  have hx : x = .own t (.lst ds) := by simpa using hx
  subst hx
  obtain ⟨F2, p, vs, s2, I2, rfl, hp, hd⟩ := SOk.freeze' r1
  refine ⟨C, F2, ρ1, _, hK, I2, k2, fun F3 w y ρ2 H2 s3 r3 k3 => ?_⟩
  obtain ⟨F4, dz, s4, I4, hz, k4⟩ := r3.data k3
  obtain ⟨k, rfl, rfl, h1, h2, h3, k5⟩ := iD_ok hz k4
  have hp4 : H2 p = some (.lst vs) := I4.fz p _ (s4 p _ (s3 p _ hp))
  have hd4 := dpa_mono (s3.trans s4) _ _ hd
  exact ⟨p, k, vs, rfl, rfl, hp4, h1, h2, by rw [dpa_len hd4]; exact h3, fun l hl => q F4 _ (.own none (.lst _)) ρ2 _ (((s1.trans s2).trans s3).trans s4) (I4.newOwn hl (dpa_rep hd4 _)) k5⟩

/-! tuple(range(n)), list(range(n)) -/
theorem dpa_rg {K : PySem.W.Frag} {F : Hp} (n : Int) : DpAll K F (rgV 0 n) (rangeD 0 n.toNat) := by
  unfold rgV rangeD
  rw [Int.sub_zero]
  generalize List.range n.toNat = l
  induction l with
  | nil => exact .nil
  | cons k l ih => exact .cons (.int _) ih
def aRgT (mk : List PyData → AV) (Ta : ATE) : ATE := fun ρ K => Ta ρ fun x ρ1 => dd x fun d => iD d fun n => -(2 ^ 62) ≤ n ∧ n ≤ 16777216 ∧ K (mk (rangeD 0 n.toNat)) ρ1
theorem e_tupRg {p p2 pos pos2 : Pos} (hm : X.mg "tuple" = none) (hm2 : X.mg "range" = none) (ha : AE X a Ta) (hg : Gl X "tuple" := by rfl) (hg2 : Gl X "range" := by rfl) (hc : X.calm = true := by rfl) (na : starEach [a] X.env = (false, eval a X.env) :: starEach [] X.env := by rfl)
    (nb : starEach [.Call (.Name "range" p2) [a] [] pos2] X.env = (false, eval (.Call (.Name "range" p2) [a] [] pos2) X.env) :: starEach [] X.env := by rfl) :
    AE X (.Call (.Name "tuple" p) [.Call (.Name "range" p2) [a] [] pos2] [] pos) (aRgT (fun ds => .dat (.tuple ds)) Ta) := pe_of (pe_tupRg hc hg hm (prg_1 hg2 hm2 ha na) nb) fun σ H Q ⟨C, F, ρ, Kc, hK, I, h, q⟩ => by
  refine ⟨C, F, ρ, _, hK, I, h, fun F1 v x ρ1 H1 s1 r1 k1 => ?_⟩
  obtain ⟨F2, d, s2, I2, hd, k2⟩ := r1.data k1
  obtain ⟨n, rfl, rfl, h1, h2, k3⟩ := iD_ok hd k2
  refine ⟨n, rfl, ⟨by omega, by omega, h1, by omega, by omega⟩, fun l hl => ?_⟩
  have s3 : Same F2 (upd F2 l (.tup (rgV 0 n))) := same_upd' (I2.fnone hl)
  exact q _ _ (.dat _) ρ1 _ ((s1.trans s2).trans s3) ⟨I2.imm hl, dp_tup upd_same (dpa_rg n)⟩ k3
theorem e_lstRg {p p2 pos pos2 : Pos} (hm : X.mg "list" = none) (hm2 : X.mg "range" = none) (ha : AE X a Ta) (hg : Gl X "list" := by rfl) (hg2 : Gl X "range" := by rfl) (hc : X.calm = true := by rfl) (na : starEach [a] X.env = (false, eval a X.env) :: starEach [] X.env := by rfl)
    (nb : starEach [.Call (.Name "range" p2) [a] [] pos2] X.env = (false, eval (.Call (.Name "range" p2) [a] [] pos2) X.env) :: starEach [] X.env := by rfl) :
    AE X (.Call (.Name "list" p) [.Call (.Name "range" p2) [a] [] pos2] [] pos) (aRgT (fun ds => .own none (.lst ds)) Ta) := pe_of (pe_listRg hc hg hm (prg_1 hg2 hm2 ha na) nb) fun σ H Q ⟨C, F, ρ, Kc, hK, I, h, q⟩ => by
  refine ⟨C, F, ρ, _, hK, I, h, fun F1 v x ρ1 H1 s1 r1 k1 => ?_⟩
  obtain ⟨F2, d, s2, I2, hd, k2⟩ := r1.data k1
  obtain ⟨n, rfl, rfl, h1, h2, k3⟩ := iD_ok hd k2
  refine ⟨n, rfl, ⟨by omega, by omega, h1, by omega, by omega⟩, fun l hl => ?_⟩
  exact q _ _ (.own none (.lst _)) ρ1 _ (s1.trans s2) (I2.newOwn hl (dpa_rg n)) k3
theorem s_unp2 {tg : Expr} {is : List Nat} {G : ATG} (he : AE X e Te) (hg : AG X tg is G) (hs : swapsWithSole [tg] e pos.line X.env = pure false := by rfl) (hw : swappedStores [tg] e X.env = pure none := by rfl) (h1 : (assignEach [tg] X.env).map (·.2) = [assign tg X.env] := by rfl) : AStm X (.Assign [tg] e pos) (aUnp Te G) := s_unp he hg (ps_asg he hg hs hw h1)
end
end Ab

set_option maxHeartbeats 4000000
/-! Ab9: reading loops and comprehensions; data that encode plain lists. -/
namespace Ab
open PySem PySem.Spec PyProof.Rows L2

theorem br_true {A B : Prop} : br true A B = A := by unfold br; simp
theorem br_false {A B : Prop} : br false A B = B := by unfold br; simp
/-- the tests' values together -/
theorem br_and {a b : Bool} {A B : Prop} (h : br (a && b) A B) : br a (br b A B) B := by
  cases a <;> cases b <;> simpa [br] using h
theorem br_or {a b : Bool} {A B : Prop} (h : br (a || b) A B) : br a A (br b A B) := by
  cases a <;> cases b <;> simpa [br] using h
theorem br_not {a : Bool} {A B : Prop} (h : br a B A) : br (!a) A B := by
  cases a <;> simpa [br] using h

section
variable {α : Type} {enc : α → PyData} {G : ATG} {T : ATS} {A : AD} {U : ATT} {Te : ATE} {vs need : List Nat} {ok : AS → Prop}
theorem for_inv (I : List α → AS → Prop) {xs : List α} {ρ : AS} (h0 : I [] ρ)
    (hs : ∀ pre x post, xs = pre ++ x :: post → ∀ ρ, I pre ρ → ∀ Kn : AS → Prop, (∀ ρ', I (pre ++ [x]) ρ' → Kn ρ') → G (enc x) ρ fun ρ1 => T { A with nx := Kn, ct := Kn, bk := A.nx } ρ1) (hd : ∀ ρ', I xs ρ' → A.nx ρ') : forRun G T (xs.map enc) A ρ := by
  have go : ∀ post pre ρ, xs = pre ++ post → I pre ρ → forRun G T (post.map enc) A ρ := by
    intro post
    induction post with
    | nil =>
      intro pre ρ e i
      rw [List.append_nil] at e
      subst e
      exact hd ρ i
    | cons x post ih =>
      intro pre ρ e i
      exact hs pre x post e ρ i _ fun ρ' i' => ih (pre ++ [x]) ρ' (by rw [e]; simp) i'
  exact go xs [] ρ rfl h0
theorem lc_inv (I : List α → List PyData → AS → Prop) {xs : List α} {ρ : AS} {K : List PyData → AS → Prop} (h0 : I [] [] ρ) (hl : xs.length < sizeLine) (hok : ∀ pre acc ρ, I pre acc ρ → ok ρ ∧ freeOf ρ need vs)
    (hs : ∀ pre x post, xs = pre ++ x :: post → ∀ acc ρ, I pre acc ρ → ∀ (Ka : PyData → AS → Prop) (Ks : AS → Prop), (∀ dy ρ', I (pre ++ [x]) (acc ++ [dy]) ρ' → Ka dy ρ') → (∀ ρ', I (pre ++ [x]) acc ρ' → Ks ρ') → turn G U Te vs (enc x) ρ Ka Ks)
    (hd : ∀ acc ρ', I xs acc ρ' → K acc ρ') : lcRun G U Te vs need ok (xs.map enc) [] ρ K := by
  have go : ∀ post pre acc ρ, xs = pre ++ post → acc.length ≤ pre.length → I pre acc ρ → lcRun G U Te vs need ok (post.map enc) acc ρ K := by
    intro post
    induction post with
    | nil =>
      intro pre acc ρ e _ i
      rw [List.append_nil] at e
      subst e
      exact ⟨(hok _ _ _ i).1, hd acc ρ i⟩
    | cons x post ih =>
      intro pre acc ρ e hz i
      have e2 : xs = (pre ++ [x]) ++ post := by rw [e]; simp
      have hlt : pre.length < xs.length := by rw [e]; simp
      refine ⟨(hok _ _ _ i).1, (hok _ _ _ i).2, hs pre x post e acc ρ i _ _ (fun dy ρ' i' => ⟨by omega, ih (pre ++ [x]) (acc ++ [dy]) ρ' e2 (by simp; omega) i'⟩) fun ρ' i' => ih (pre ++ [x]) acc ρ' e2 (by simp; omega) i'⟩
  exact go xs [] [] ρ rfl (Nat.le_refl _) h0
/-- a comprehension that changes nothing -/
theorem lc_pure (p : α → Bool) (f : α → PyData) {xs : List α} {ρ : AS} {K : List PyData → AS → Prop} (h0 : ok ρ) (hf : freeOf ρ need vs) (hl : xs.length < sizeLine)
    (ht : ∀ x ∈ xs, ∀ (Ka : PyData → AS → Prop) (Ks : AS → Prop), (p x = true → Ka (f x) ρ) → (p x = false → Ks ρ) → turn G U Te vs (enc x) ρ Ka Ks) (hk : K ((xs.filter p).map f) ρ) : lcRun G U Te vs need ok (xs.map enc) [] ρ K := by
  refine lc_inv (fun pre acc ρ' => ρ' = ρ ∧ acc = (pre.filter p).map f) ⟨rfl, rfl⟩ hl (fun pre acc ρ' h => by rw [h.1]; exact ⟨h0, hf⟩) (fun pre x post e acc ρ' ⟨e1, e2⟩ Ka Ks ka ks => ?_) fun acc ρ' ⟨e1, e2⟩ => ?_
  · subst e1
    subst e2
    refine ht x (by rw [e]; simp) Ka Ks (fun hp => ka _ _ ⟨rfl, ?_⟩) fun hp => ks _ ⟨rfl, ?_⟩
    · simp [List.filter_append, hp]
    · simp [List.filter_append, hp]
  · subst e1
    subst e2
    exact hk
/-- .. without a test -/
theorem lc_map (f : α → PyData) {xs : List α} {ρ : AS} {K : List PyData → AS → Prop} (h0 : ok ρ) (hf : freeOf ρ need vs) (hl : xs.length < sizeLine)
    (ht : ∀ x ∈ xs, ∀ (Ka : PyData → AS → Prop) (Ks : AS → Prop), Ka (f x) ρ → turn G U Te vs (enc x) ρ Ka Ks) (hk : K (xs.map f) ρ) : lcRun G U Te vs need ok (xs.map enc) [] ρ K :=
  lc_pure (fun _ => true) f h0 hf hl (fun x hx Ka Ks ka _ => ht x hx Ka Ks (ka rfl)) (by rw [List.filter_eq_self.mpr (fun _ _ => rfl)]; exact hk)
end

/-! ### data of plain values -/
def Faith {α : Type} [DecidableEq α] (enc : α → PyData) : Prop := ∀ a b, PyData.eqv (enc a) (enc b) = decide (a = b)
section
variable {α : Type} [DecidableEq α] {enc : α → PyData}
theorem faith_int : Faith PyData.int := fun a b => by simp only [PyData.eqv]; exact PySem.W.beq_decide a b
theorem faith_all (h : Faith enc) : ∀ xs ys : List α, PyData.eqvAll (xs.map enc) (ys.map enc) = decide (xs = ys)
  | [], [] => by simp [PyData.eqvAll]
  | [], _ :: _ => by simp [PyData.eqvAll]
  | _ :: _, [] => by simp [PyData.eqvAll]
  | x :: xs, y :: ys => by
    simp only [List.map_cons, PyData.eqvAll, h x y, faith_all h xs ys]
    by_cases e1 : x = y <;> by_cases e2 : xs = ys <;> simp [e1, e2]
theorem faith_tup (h : Faith enc) : Faith fun xs : List α => PyData.tuple (xs.map enc) := fun xs ys => by
  show PyData.eqv (.tuple _) (.tuple _) = _
  rw [PyData.eqv]
  exact faith_all h xs ys
theorem faith_lst (h : Faith enc) : Faith fun xs : List α => PyData.list (xs.map enc) := fun xs ys => by
  show PyData.eqv (.list _) (.list _) = _
  rw [PyData.eqv]
  exact faith_all h xs ys
theorem faith_any (h : Faith enc) (x : α) : ∀ ys : List α, ((ys.map enc).any fun y => PyData.eqv y (enc x)) = decide (x ∈ ys)
  | [] => by simp
  | y :: ys => by
    simp only [List.map_cons, List.any_cons, h y x, faith_any h x ys]
    by_cases e : x = y
    · simp [e]
    · have e' : ¬ y = x := fun z => e z.symm
      simp [e, e']
theorem depthAll_le {f : α → PyData} {n : Nat} (h : ∀ a, (f a).depth ≤ n) : ∀ xs : List α, PyData.depthAll (xs.map f) ≤ n
  | [] => Nat.zero_le _
  | x :: xs => by
    rw [List.map_cons, PyData.depthAll]
    exact Nat.max_le.mpr ⟨h x, depthAll_le h xs⟩
theorem depth_int (i : Int) : (PyData.int i).depth = 0 := rfl
theorem depth_tup {f : α → PyData} {n : Nat} (h : ∀ a, (f a).depth ≤ n) (xs : List α) : (PyData.tuple (xs.map f)).depth ≤ n + 1 := by
  rw [PyData.depth]
  exact Nat.succ_le_succ (depthAll_le h xs)
theorem depth_lst {f : α → PyData} {n : Nat} (h : ∀ a, (f a).depth ≤ n) (xs : List α) : (PyData.list (xs.map f)).depth ≤ n + 1 := by
  rw [PyData.depth]
  exact Nat.succ_le_succ (depthAll_le h xs)
theorem sIn_of (h : Faith enc) {n : Nat} (hd : ∀ a, (enc a).depth ≤ n) (hn : n ≤ 50) {b : Bool} {x : α} {ys : List α} {k : PyData → Prop} (hk : k (.bool (decide (x ∈ ys)))) : sIn (enc x) b (ys.map enc) k :=
  ⟨Nat.le_trans (Nat.min_le_right _ _) (Nat.le_trans (hd x) hn), by rw [faith_any h]; exact hk⟩
theorem sNotIn_of (h : Faith enc) {n : Nat} (hd : ∀ a, (enc a).depth ≤ n) (hn : n ≤ 50) {b : Bool} {x : α} {ys : List α} {k : PyData → Prop} (hk : k (.bool (!decide (x ∈ ys)))) : sNotIn (enc x) b (ys.map enc) k :=
  ⟨Nat.le_trans (Nat.min_le_right _ _) (Nat.le_trans (hd x) hn), by rw [faith_any h]; exact hk⟩
theorem sIn_int {b : Bool} {x : Int} {ys : List Int} {k : PyData → Prop} : sIn (.int x) b (ys.map PyData.int) k = k (.bool (decide (x ∈ ys))) := by
  unfold sIn
  rw [faith_any faith_int, depth_int, Nat.min_zero]
  simp
theorem sNotIn_int {b : Bool} {x : Int} {ys : List Int} {k : PyData → Prop} : sNotIn (.int x) b (ys.map PyData.int) k = k (.bool (!decide (x ∈ ys))) := by
  unfold sNotIn
  rw [faith_any faith_int, depth_int, Nat.min_zero]
  simp
theorem sEq_int {a b : Int} {k : PyData → Prop} : sEq (.int a) (.int b) k = k (.bool (decide (a = b))) := by
  unfold sEq
  rw [faith_int, depth_int]
  simp
theorem sNe_int {a b : Int} {k : PyData → Prop} : sNe (.int a) (.int b) k = k (.bool (!decide (a = b))) := by
  unfold sNe
  rw [faith_int, depth_int]
  simp
theorem sEq_bool {a b : Bool} {k : PyData → Prop} : sEq (.bool a) (.bool b) k = k (.bool (a == b)) := by
  unfold sEq
  rw [show (PyData.bool a).depth = 0 from rfl]
  simp [PyData.eqv]
theorem sNe_bool {a b : Bool} {k : PyData → Prop} : sNe (.bool a) (.bool b) k = k (.bool (!(a == b))) := by
  unfold sNe
  rw [show (PyData.bool a).depth = 0 from rfl]
  simp [PyData.eqv]
theorem sEq_str {a b : Str} {k : PyData → Prop} : sEq (.str a) (.str b) k = k (.bool (decide (a = b))) := by
  unfold sEq
  rw [show (PyData.str a).depth = 0 from rfl]
  simp [PyData.eqv, PySem.W.beq_decide]
theorem sEq_of (h : Faith enc) {n : Nat} (hd : ∀ a, (enc a).depth ≤ n) (hn : n ≤ 50) {x y : α} {k : PyData → Prop} (hk : k (.bool (decide (x = y)))) : sEq (enc x) (enc y) k :=
  ⟨Nat.le_trans (Nat.min_le_left _ _) (Nat.le_trans (hd x) hn), by rw [h]; exact hk⟩
theorem sNe_of (h : Faith enc) {n : Nat} (hd : ∀ a, (enc a).depth ≤ n) (hn : n ≤ 50) {x y : α} {k : PyData → Prop} (hk : k (.bool (!decide (x = y)))) : sNe (enc x) (enc y) k :=
  ⟨Nat.le_trans (Nat.min_le_left _ _) (Nat.le_trans (hd x) hn), by rw [h]; exact hk⟩
end
theorem small_len {n : Nat} (h : n ≤ 100000) : n < sizeLine := Nat.lt_of_le_of_lt h (by decide)
theorem small_le {n : Nat} (h : n ≤ 100000) : n ≤ sizeLine := Nat.le_of_lt (small_len h)
end Ab

set_option maxHeartbeats 4000000
/-! Ab10: sorted(set(xs)), xs a list or a tuple of tuples of ints. -/
namespace Ab
open PySem PySem.Spec PyProof.Rows L2
open PySem.W (EachIs dataLe Sortable AllAlike)

section
variable {P : Program} {w : World} {A : Around} {E : Value → Shared → Prop} {s : Shared}
abbrev newSet (w : World) : Obj := { cls := .type "set", dict := none, data := .set #[] 0 (.fresh 0 0 (!w.params.followText "set-order")) }
set_option maxHeartbeats 3200000 in
/-- set(t), t a tuple of tuples of ints -/
theorem set_of_tuple {l : Addr} {items : Array Value} (ks : List (Addr × List Int)) {Q : Value → Shared → Prop} (hh : A.handled = none) (hl : s.heap.IsTuple l items) (hit : items.toList = ks.map fun p => Value.ref p.1)
    (hk : ∀ p ∈ ks, IsT P w s.heap p.2 p.1) (hfew : ks.length < 64) (hu : A.units + 3 < cLine)
    (fin : ∀ (h1 : Heap) (tk : Nat) L es ep t, SetTR P w h1 s.heap.objs.size L es ep t → Got ks ks.length L → (∀ b o, s.heap.get? b = some o → h1.get? b = some o) → Q (.ref s.heap.objs.size) { s with heap := h1, toks := tk }) :
    wpAny (model P w) A (call (.type "set") [.ref l]) Q E s := by
  have n0 : items.size = ks.length := by
    have e := congrArg List.length hit
    rwa [Array.length_toList, List.length_map] at e
  obtain ⟨c, tl, mro⟩ := F.called_set.mro
  have made := F.called_set.made
  have sub := F.called_set.sub
  refine wpAny_call (codeAny_of_tree ?_)
  show wpAny _ _ (callAny (.type "set") _) _ _ _
  refine wpAny_pure ⟨Code.quiet_builtin _ (by decide +kernel), ?_⟩
  refine codeAny_builtin F.entry_type_call ?_
  rw [Around.under_plain (weight_type_call_type "set" [.ref l] []) rfl]
  have t1 := F.called_set.notType
  have t2 := F.called_set.canCreate
  have t3 := F.typeCall_set_1 (.ref l)
  repeat (any_goals (first | assumption | wp_step))
  have made2 := code_set_led1 (P := P) (w := w) (A := A.in1) (s := s) (.ref l) (E := E) (Q₁ := fun o s₁ => o = .ref s.heap.objs.size ∧ s₁ = { s with heap := s.heap.push (newSet w) }) ⟨rfl, rfl⟩
  refine codeAny_mono made2 fun r sa hr => ?_
  cases r with
  | error e => exact hr
  | ok f1 =>
    cases f1 with
    | next => exact hr.elim
    | brk => exact hr.elim
    | cont => exact hr.elim
    | ret obj =>
      obtain ⟨rfl, rfl⟩ := hr
      have atS : (s.heap.push (newSet w)).get? s.heap.objs.size = some (newSet w) := Heap.get?_push_size _ rfl
      have tyS : Shared.TypeIs { s with heap := s.heap.push (newSet w) } (.ref s.heap.objs.size) "set" := ⟨_, atS, rfl⟩
      have i1 := F.called_set.init.lookup
      have i2 := F.called_set.init.bind (.ref s.heap.objs.size)
      repeat (any_goals (first | assumption | wp_step))
      let Rw : Result → Shared → Prop := wants (fun r sb => r = .none ∧ ∃ h1 tk L es ep t, sb = { s with heap := h1, toks := tk } ∧ SetTR P w h1 s.heap.objs.size L es ep t ∧ Got ks ks.length L ∧ ∀ b o, s.heap.get? b = some o → h1.get? b = some o) E
      refine codeAny_mono (codeAny_call_builtin (R := Rw) F.called_set.init.plain F.entry_set_init (check_set_init_1 tyS ?_)) fun r2 sb hr2 => ?_
      · obtain ⟨ol, hol, hcl, nl, hdl⟩ := hl
        obtain ⟨ocls, odict, odata, oslots⟩ := ol
        simp only at hcl hdl
        subst hcl; subst hdl
        have atL : (s.heap.push (newSet w)).get? l = some { cls := .type "tuple", dict := odict, data := .seq items nl, slots := oslots } := Heap.get?_push_of_some _ hol
        have f1 := F.sub_tuple_set
        have f2 := F.sub_tuple_frozenset
        have f3 : (Value.type "tuple" == Value.type "dict") = false := by decide
        have tupL : (s.heap.push (newSet w)).IsTuple l items := ⟨_, atL, rfl, nl, rfl⟩
        unfold Builtin.«set.__init__» noKeywords Builtin.Frozenset.updateFrom
        generalize hPI : pyIter = PI
        wp_walk
        subst hPI
        refine wpAny_pyIter_tuple tupL ?_
        refine wpAny_bind (wpAny_runValue ?_)
        have ltL : l < s.heap.objs.size := Heap.lt_size hol
        have calm3 : A.in1.in1.in1.handled = none := by simp [hh]
        have neI : l ≠ (s.heap.push (newSet w)).objs.size := by
          rw [Heap.size_push]
          exact Nat.ne_of_lt (Nat.lt_succ_of_lt ltL)
        have nS : s.heap.objs.size ∉ [(s.heap.push (newSet w)).objs.size, l] := by
          rw [Heap.size_push]
          simp only [List.mem_cons, List.not_mem_nil, or_false, not_or]
          exact ⟨Nat.ne_of_lt (Nat.lt_succ_self _), Nat.ne_of_gt ltL⟩
        have vals : ∀ (i : Nat) (v : Value), items[i]? = some v → ∃ p, ks[i]? = some p ∧ v = .ref p.1 := fun i v hv => by
          have e : items.toList[i]? = some v := by rw [Array.getElem?_toList]; exact hv
          rw [hit, List.getElem?_map] at e
          cases hq : ks[i]? with
          | none => rw [hq] at e; cases e
          | some p =>
            rw [hq] at e
            exact ⟨p, rfl, (Option.some.inj e).symm⟩
        have free : ∀ b, s.heap.objs.size ≤ b → s.heap.get? b = none := fun b hb => Heap.get?_none_of_le hb
        refine set_update_tups ((Walks.tuple calm3 _ l neI items).toS) s.heap.objs.size nS ks n0 hfew vals s.heap hk (free _ (Nat.le_refl _))
          (fun b hb => free b (by rw [List.mem_singleton.mp hb, Heap.size_push]; exact Nat.le_succ _)) hu (items.size - 0) 0 _ (by omega) (Nat.zero_le _)
          ⟨⟨_, Heap.get?_push_size _ rfl, rfl, rfl⟩, tupL.push _⟩ (fun b o e => Heap.get?_push_of_some _ (Heap.get?_push_of_some _ e)) ⟨[], #[], 0, _, setTR_fresh (Heap.get?_push_of_some _ atS), Got.zero ks⟩ fun sc L es ep t hm hS g hkp => ?_
        obtain ⟨h1, g2, d1, tk1, os1⟩ := sc
        have eg : g2 = s.gens := hm.gens
        have ed : d1 = s.drawn := hm.drawn
        have eo : os1 = s.os := hm.os
        subst eg; subst ed; subst eo
        show wpAny _ _ _ _ _ _
        refine wpAny_pure ?_
        show wpAny _ _ (ret Value.none) _ _ _
        rw [n0] at g
        exact wpAny_pure ⟨rfl, h1, tk1, L, es, ep, t, rfl, hS, g, hkp⟩
      · cases r2 with
        | error e => exact hr2
        | ok fl2 =>
          cases fl2 with
          | ret r =>
            obtain ⟨rfl, h1, tk, L, es, ep, t, rfl, hS, g, hk1⟩ := hr2
            repeat (any_goals (first | assumption | wp_step))
            exact fin _ _ _ _ _ _ hS g hk1
          | _ => exact hr2.elim
end
end Ab

set_option maxHeartbeats 4000000
namespace Ab
open PySem PySem.Spec PyProof.Rows L2
open PySem.W (EachIs dataLe Sortable AllAlike)

theorem perm_lift {α β : Type} {f : α → β} {vs ws : List β} (h : vs.Perm ws) : ∀ L : List α, ws = L.map f → ∃ L1 : List α, L1.Perm L ∧ vs = L1.map f := by
  induction h with
  | nil => intro L e; exact ⟨L, .refl _, e⟩
  | cons x _ ih =>
    intro L e
    cases L with
    | nil => cases e
    | cons y L =>
      injection e with e1 e2
      obtain ⟨L1, p, e3⟩ := ih L e2
      exact ⟨y :: L1, p.cons y, by rw [List.map_cons, e1, e3]⟩
  | swap x y l =>
    intro L e
    match L, e with
    | a :: b :: L, e =>
      injection e with e1 e2
      injection e2 with e2 e3
      exact ⟨b :: a :: L, .swap a b L, by rw [List.map_cons, List.map_cons, e1, e2, e3]⟩
  | trans _ _ ih1 ih2 =>
    intro L e
    obtain ⟨L1, p1, e1⟩ := ih2 L e
    obtain ⟨L2, p2, e2⟩ := ih1 L1 e1
    exact ⟨L2, p2.trans p1, e2⟩
theorem each_eq {α : Type} {f : α → Value} : ∀ {out : List Value} {l : List α}, EachIs (fun v q => v = f q) out l → out = l.map f
  | _, _, .nil => rfl
  | _, _, .cons h t => by rw [List.map_cons, h, each_eq t]
theorem reads_ints {h : Heap} : ∀ {vs : List Value} {ns : List Int}, IntsAre vs ns → ReadsAll h vs (ns.map PyData.int) []
  | _, _, .nil => .nil
  | _, _, .cons n t r => .cons (as := []) (bs := []) (.int n t) (reads_ints r)
section
variable {P : Program} {w : World} {A : Around} {E : Value → Shared → Prop} {s : Shared}
abbrev tI (xs : List Int) : PyData := .tuple (xs.map .int)
theorem isT_reads {h : Heap} {k : List Int} {b : Addr} (x : IsT P w h k b) : Reads h (.ref b) (tI k) [] := by
  obtain ⟨o, items, n, ho, hc, hd, hi⟩ := x
  exact .tuple ho hc hd (reads_ints (ints_of_items hi))
theorem alike_tI (x y : List Int) : PySem.W.alike (tI x) (tI y) = true := by
  show PySem.W.alike (.tuple _) (.tuple _) = true
  simp only [PySem.W.alike]
  exact PySem.W.alike_ints x y
theorem depth_tI (x : List Int) : (tI x).depth = 1 := by
  show PyData.depth (.tuple _) = 1
  rw [PyData.depth, PySem.W.depth_ints]
theorem sorted_set {a : Addr} {L : List (Addr × List Int)} {es : Array (Int × Value)} {ep : Nat} {t : SetTable} {Q : Value → Shared → Prop} (R : SetTR P w s.heap a L es ep t) (hh : A.handled = none) (hu : A.units + 10 < cLine) (hne : ∀ p ∈ L, p.2 ≠ [])
    (fin : ∀ s1 p (out : List Value) (c : Nat) (L1 : List (Addr × List Int)), (∀ b o, s.heap.get? b = some o → s1.heap.get? b = some o) → s1.gens = s.gens → s1.os = s.os → s.heap.objs.size ≤ p →
      s1.heap.get? p = some (seqObj "list" out.toArray c) → out = L1.map (fun q => Value.ref q.1) → L1.Perm L → L1.Pairwise (fun q r => dataLe false (fun q : Addr × List Int => tI q.2) q r = true) → Q (.ref p) s1) :
    wpAny (model P w) A (call (.builtin "sorted") [.ref a]) Q E s := by
  obtain ⟨o, ho, hex, hd⟩ := R.ob
  have few := R.few
  have size := R.size
  refine Calls.call_function_entry kind_sorted plain_sorted entry_sorted (args_sorted1 _) ?_
  unfold Builtin.«sorted»
  refine wpAny_bind (m := checkCount "sorted" 1 1 _) (wpAny_pure ?_)
  refine wpAny_bind (collect_set (A := A.in1) hh ⟨o, ho, hex.1, hd⟩ R.fits (by unfold scanBound; omega) R.tab.ris R.led fun s1 vs k1 hz g1 o1 pm => ?_)
  have he : es.toList.map (·.2) = L.map fun q => Value.ref q.1 := by
    rw [R.rows]
    unfold rowsOf
    rw [List.map_map] <;> rfl
  rw [he] at pm
  obtain ⟨L1, p1, ev⟩ := perm_lift pm L rfl
  have hl1 : L1.length = L.length := p1.length_eq
  have hvl : vs.length = L.length := by rw [ev, List.length_map, hl1]
  refine wpAny_bind (wpAny_newList ?_ (by rw [sizeLine_eq]; omega))
  have hoL : (s1.heap.push (seqObj "list" vs.toArray 0)).get? s1.heap.objs.size = some (seqObj "list" vs.toArray 0) := Heap.get?_push_size _ rfl
  have rd : ∀ q ∈ L1, Reads (s1.heap.push (seqObj "list" vs.toArray 0)) (.ref q.1) (tI q.2) [] := fun q hq => isT_reads (P := P) (w := w) (isT_keep (R.tup q (p1.mem_iff.mp hq)) fun b u e => Heap.get?_push_of_some _ (k1 b u e))
  have e1 : ∀ l : List (Addr × List Int), EachIs (fun v (q : Addr × List Int) => v = Value.ref q.1) (l.map fun q => Value.ref q.1) l := fun l => by
    induction l with
    | nil => exact .nil
    | cons q l ih => exact .cons rfl ih
  have e2 : ∀ l : List (Addr × List Int), (∀ q ∈ l, q ∈ L1) → EachIs (fun v (q : Addr × List Int) => ∃ as, Reads (s1.heap.push (seqObj "list" vs.toArray 0)) v (tI q.2) as ∧ s1.heap.objs.size ∉ as) (l.map fun q => Value.ref q.1) l := fun l => by
    induction l with
    | nil => intro _; exact .nil
    | cons q l ih => intro hs; exact .cons ⟨[], rd q (hs q List.mem_cons_self), by simp⟩ (ih fun r hr => hs r (List.mem_cons_of_mem _ hr))
  have hA : AllAlike (L1.map fun q => tI q.2) := PySem.W.AllAlike.of fun b b' => alike_tI b.2 b'.2
  have hS : Sortable (L1.map fun q => tI q.2) := .inl fun d hd => by
    obtain ⟨q, hq, rfl⟩ := List.mem_map.mp hd
    have hn := hne q (p1.mem_iff.mp hq)
    cases e : q.2 with
    | nil => exact absurd e hn
    | cons x r => exact ⟨.int x, r.map .int, rfl⟩
  refine wpAny_bind (wpAny_holding ?_)
  refine PySem.W.list_sort_data (s := { s1 with heap := s1.heap.push (seqObj "list" vs.toArray 0) }) (R := fun v (q : Addr × List Int) => v = Value.ref q.1) (enc := fun q : Addr × List Int => tI q.2) (bs := L1) (vs := vs) hoL (by rw [ev]; exact e1 L1) (by rw [ev] at e2 ⊢; exact e2 L1 fun _ h => h) hA hS (by rw [sizeLine_eq]; omega) (fun b hb => ?_) fun out ho2 hE => ?_
  · rw [depth_tI]
    show A.in1.units + 1 + 1 < cLine
    have : A.in1.units = A.units + 1 := rfl
    omega
  · obtain ⟨c, hc⟩ := sortedHeap_at (vs := vs) (out := out.toArray) hoL
    have eo : out = (L1.mergeSort (dataLe false fun q : Addr × List Int => tI q.2)).map fun q => Value.ref q.1 := each_eq hE
    refine wpAny_pure ⟨_, rfl, fin _ s1.heap.objs.size out c (L1.mergeSort (dataLe false fun q : Addr × List Int => tI q.2)) (fun b u e => ?_) g1 o1 hz hc eo ((List.mergeSort_perm _ _).trans p1) ?_⟩
    · have e := k1 b u e
      have hlt := Heap.lt_size e
      show (sortedHeap _ _ _ _).get? b = some u
      rw [sortedHeap_old (Nat.ne_of_lt hlt) (by rw [size_push']; exact Nat.lt_succ_of_lt hlt)]
      exact Heap.get?_push_of_some _ e
    · exact PySem.W.sort_pairwise (PySem.W.sortLe_total _ _ _) L1
end

section
variable {X : Cx}
def rSetS (K : PySem.W.Frag) (P : Program) (w : World) : List V → Hp → VK → Prop := fun xs H Q => ∃ (l : Addr) (b : Bool) (ks : List (Addr × List Int)), xs = [V.ref l] ∧ Seq K H b l (ks.map fun p => V.ref p.1) ∧ (∀ p ∈ ks, SqT K H p.1 (p.2.map V.int)) ∧ ks.length < 64 ∧
  ∀ a L, H a = none → (∀ p ∈ L, p ∈ ks) → (∀ p ∈ ks, p.2 ∈ L.map (·.2)) → (L.map (·.2)).Nodup → Q (.ref a) (upd H a (SetTO P w a L))
theorem cr_setS (hc : X.calm = true) (hu : X.A.units + 64 < cLine) : CallR X (.type "set") (rSetS X.K X.prog X.w) := by
  intro pins s σ H xs us Q I r h
  obtain ⟨l, b, ks, rfl, hl, hk, hf, q⟩ := h
  rw [Vals.ref1 r]
  have hn : H s.heap.objs.size = none := I.hok.fresh (Nat.le_refl _)
  have go : ∀ (h1 : Heap) (tk : Nat) L es ep t, SetTR X.prog X.w h1 s.heap.objs.size L es ep t → Got ks ks.length L → (∀ b o, s.heap.get? b = some o → h1.get? b = some o) → EP X pins σ Q (.ref s.heap.objs.size) { s with heap := h1, toks := tk } := fun h1 tk L es ep t R g k =>
    ⟨.ref s.heap.objs.size, upd H s.heap.objs.size (SetTO X.prog X.w s.heap.objs.size L), I.laid (t' := tk) k (Nat.le_refl _) (setTO_new R.t0), rfl, q _ L hn (fun p hp => List.mem_of_mem_take (g.sub p hp)) (fun p hp => g.all p (by rw [List.take_length]; exact hp)) R.nd⟩
  cases b with
  | true =>
    obtain ⟨its, rv, pl, hz⟩ := I.list hl
    exact call_set_tups (P := X.prog) (w := X.w) ks (I.ok.hd hc) pl.isList (by simpa using refs_of_vals rv) (fun p hp => I.isT (hk p hp)) hf (by omega) go
  | false =>
    obtain ⟨its, rv, pl, hz⟩ := I.tuple hl
    have pl : s.heap.IsTuple l its.toArray := by
      obtain ⟨o, e1, e2, n, e3⟩ := pl
      exact ⟨o, e1, e2, n, e3⟩
    exact set_of_tuple (P := X.prog) (w := X.w) ks (I.ok.hd hc) pl (by simpa using refs_of_vals rv) (fun p hp => I.isT (hk p hp)) hf (by omega) go
def rSortS (K : PySem.W.Frag) (P : Program) (w : World) : List V → Hp → VK → Prop := fun vs H Q => ∃ (a : Addr) (L : List (Addr × List Int)), vs = [V.ref a] ∧ H a = some (SetTO P w a L) ∧ (∀ p ∈ L, SqT K H p.1 (p.2.map V.int)) ∧ (∀ p ∈ L, p.2 ≠ []) ∧
  ∀ (L1 : List (Addr × List Int)) (p : Addr), L1.Perm L → L1.Pairwise (fun q r => dataLe false (fun q : Addr × List Int => tI q.2) q r = true) → H p = none → Q (.ref p) (upd H p (.lst (L1.map fun q => V.ref q.1)))
theorem cr_sortS (hc : X.calm = true) (hu : X.A.units + 64 < cLine) : CallR X (.builtin "sorted") (rSortS X.K X.prog X.w) := by
  intro pins s σ H vs us Q I r h
  obtain ⟨a, L, rfl, ha, hk, hne, q⟩ := h
  have R0 : SetT0 X.prog X.w s.heap a L := (I.hok a _ ha).1
  obtain ⟨es, ep, t, R⟩ := R0.full fun p hp => I.isT (hk p hp)
  rw [Vals.ref1 r]
  refine sorted_set R (I.ok.hd hc) (by omega) hne fun s1 p out c L1 k g o hp hg hout pm pw => ?_
  have few : L1.length < 64 := by rw [pm.length_eq]; exact R.few
  have hlen : (L1.map fun q => V.ref q.1).length ≤ sizeLine := by rw [List.length_map, sizeLine_eq]; omega
  have hn : H p = none := I.hok.fresh hp
  have hv : Vals (L1.map fun q => V.ref q.1) out := by rw [hout]; exact vals_of_refs L1
  obtain ⟨h1, g1, d1, tk1, os1⟩ := s1
  have g : g1 = s.gens := g
  have o : os1 = s.os := o
  subst g
  subst o
  have J : Inv X pins σ (upd H p (.lst (L1.map fun q => V.ref q.1))) { s with heap := h1, gens := s.gens, drawn := d1, toks := tk1 } :=
    I.call (ch := []) (Un.laid k hp hn) (I.hok.laid k hp ⟨hlen, out, c, hv, hg⟩) I.bare (fun _ z => nomatch z)
  exact ⟨.ref p, _, J, rfl, q L1 p pm pw hn⟩
theorem dpa_ints {K : PySem.W.Frag} {F : Hp} : ∀ ns : List Int, DpAll K F (ns.map V.int) (ns.map PyData.int)
  | [] => .nil
  | n :: ns => .cons (.int n) (dpa_ints ns)
theorem dpa_tups {K : PySem.W.Frag} {F : Hp} : ∀ {rows : List (List Int)} {vs : List V}, DpAll K F vs (rows.map tI) → ∃ ks : List (Addr × List Int), vs = (ks.map fun p => V.ref p.1) ∧ rows = ks.map (·.2) ∧ ∀ p ∈ ks, SqT K F p.1 (p.2.map V.int)
  | [], _, h => by cases h; exact ⟨[], rfl, rfl, fun _ z => nomatch z⟩
  | r :: rows, _, h => by
    cases h with
    | cons h1 h2 =>
      obtain ⟨ks, e1, e2, e3⟩ := dpa_tups h2
      cases h1 with
      | tup hs ha =>
        obtain ⟨e4, _⟩ := intsD_ok (intsD_map' r) ha
        subst e4
        refine ⟨(_, r) :: ks, by rw [List.map_cons, ← e1], by rw [List.map_cons, ← e2], fun p hp => ?_⟩
        rcases List.mem_cons.mp hp with rfl | hp
        · exact hs
        · exact e3 p hp
def aSortSet (Te : ATE) : ATE := fun ρ K => Te ρ fun x ρ1 => arg x fun y => cont ρ1 y fun _ ds => ∃ rows : List (List Int), ds = rows.map tI ∧ rows.length < 64 ∧ (∀ r ∈ rows, r ≠ []) ∧
  ∀ rows1 : List (List Int), rows1.Nodup → (∀ r, r ∈ rows1 ↔ r ∈ rows) → rows1.Pairwise (fun q r => dataLe false tI q r = true) → K (.own none (.lst (rows1.map tI))) ρ1
theorem e_sortSet {e : Expr} {Te : ATE} {p p2 pos pos2 : Pos} (hu : X.A.units + 64 < cLine) (hm : X.mg "sorted" = none) (hm2 : X.mg "set" = none) (he : AE X e Te) (hg : Gl X "sorted" := by rfl) (hg2 : Gl X "set" := by rfl) (hc : X.calm = true := by rfl)
    (na : starEach [e] X.env = (false, eval e X.env) :: starEach [] X.env := by rfl)
    (nb : starEach [.Call (.Name "set" p2) [e] [] pos2] X.env = (false, eval (.Call (.Name "set" p2) [e] [] pos2) X.env) :: starEach [] X.env := by rfl) :
    AE X (.Call (.Name "sorted" p) [.Call (.Name "set" p2) [e] [] pos2] [] pos) (aSortSet Te) :=
  pe_of (pe_callB (cr_sortS hc hu) hg hm boot_sorted (pa_cons (pe_callTy (cr_setS hc hu) hg2 hm2 boot_set (pa_cons he pa_nil na) (by decide) (by decide) na rfl) pa_nil nb) (by decide) (by decide) nb rfl) fun σ H Q ⟨C, F, ρ, Kc, hK, I, h, q⟩ => by
    refine ⟨C, F, ρ, _, hK, I, h, fun F1 v x ρ1 H1 s1 r1 k1 => ?_⟩
    obtain ⟨F2, y, s2, I2, hy, k2⟩ := r1.arg k1
    obtain ⟨a, vs, b, ds, rfl, h3, _, h4, rows, rfl, hf, hne, k3⟩ := hy.cont I2 k2
    obtain ⟨ks, rfl, rfl, e3⟩ := dpa_tups h4
    rw [hK] at h3
    refine ⟨a, b, ks, rfl, h3, fun p hp => hK ▸ same_t I2.fz (e3 p hp), by simpa using hf, fun c L hn hL1 hL2 hnd => ?_⟩
    have g : Same H1 (upd H1 c (SetTO X.prog X.w c L)) := same_upd' hn
    have I3 := I2.grow g
    refine ⟨c, L, rfl, upd_same, fun p hp => hK ▸ same_t I3.fz (e3 p (hL1 p hp)), fun p hp => hne _ (List.mem_map.mpr ⟨p, hL1 p hp, rfl⟩), fun L1 p pm pw hp => ?_⟩
    have d1 : DpAll C.K F2 (L1.map fun q => V.ref q.1) ((L1.map (·.2)).map tI) := by
      have : ∀ l : List (Addr × List Int), (∀ q ∈ l, q ∈ ks) → DpAll C.K F2 (l.map fun q => V.ref q.1) ((l.map (·.2)).map tI) := fun l => by
        induction l with
        | nil => intro _; exact .nil
        | cons q l ih =>
          intro hs
          refine .cons (.tup (e3 q (hs q List.mem_cons_self)) ?_) (ih fun r hr => hs r (List.mem_cons_of_mem _ hr))
          exact dpa_ints q.2
      exact this L1 fun q hq => hL1 q (pm.mem_iff.mp hq)
    refine q F2 _ (.own none (.lst _)) ρ1 _ (s1.trans s2) (I3.newOwn hp d1) (k3 _ ((pm.map (·.2)).nodup_iff.mpr hnd) (fun r => ?_) ?_)
    · constructor
      · intro hr
        obtain ⟨p, hp, rfl⟩ := List.mem_map.mp hr
        exact List.mem_map.mpr ⟨p, hL1 p (pm.mem_iff.mp hp), rfl⟩
      · intro hr
        obtain ⟨p, hp, rfl⟩ := List.mem_map.mp hr
        exact (pm.map (·.2)).mem_iff.mpr (hL2 p hp)
    · rw [List.pairwise_map]
      exact pw
end
theorem e_globI {X : Cx} {x : Str} {i : Int} {t : Tok} {pos : Pos} (hg : Gl X x) (hm : X.mg x = some (.int i t)) (hd : (x == ("__debug__" : Str)) = false := by decide) : AE X (.Name x pos) (aC (.int i)) := e_c (pe_glob hg hm (v := .int i) ⟨t, rfl⟩ hd) fun _ _ => .int i
end Ab

set_option maxHeartbeats 4000000
/-! Ab12: equations for reading, one a case; statements one by one. -/
namespace Ab
open PySem PySem.Spec PyProof.Rows L2
section
variable {ρ : AS} {d : PyData} {ds es : List PyData} {t : Option Nat} {i : Nat}
def nm (i : Nat) : Option (Option AV) → AS → (AV → AS → Prop) → Prop
  | some (some (.dat d)), ρ, K => K (.dat d) ρ
  | some (some (.own _ _)), ρ, K => K (.ali i) ρ
  | _, _, _ => False
theorem aName_eq {K : AV → AS → Prop} : aName i ρ K = nm i ρ[i]? ρ K := by
  unfold aName nm
  rcases ρ[i]? with _ | _ | _ | _ | _ <;> rfl
theorem nm_dat {K : AV → AS → Prop} : nm i (some (some (.dat d))) ρ K = K (.dat d) ρ := rfl
theorem nm_own {K : AV → AS → Prop} {o : OV} : nm i (some (some (.own t o))) ρ K = K (.ali i) ρ := rfl
theorem dd_dat {k : PyData → Prop} : dd (.dat d) k = k d := rfl
theorem dd_own {k : PyData → Prop} : dd (.own t (.lst ds)) k = k (.list ds) := rfl
theorem bb_bool {b : Bool} {k : Bool → Prop} : bb (.bool b) k = k b := rfl
theorem arg_dat {k : AV → Prop} : arg (.dat d) k = k (.dat d) := rfl
theorem arg_own {k : AV → Prop} : arg (.own t (.lst ds)) k = k (.dat (.list ds)) := rfl
theorem arg_ali {k : AV → Prop} : arg (.ali i) k = k (.ali i) := rfl
theorem das_nil {k : List PyData → Prop} : das [] k = k [] := rfl
theorem das_dat {r : List AV} {k : List PyData → Prop} : das (.dat d :: r) k = das r fun ds => k (d :: ds) := rfl
theorem cont_list {k : Bool → List PyData → Prop} : cont ρ (.dat (.list ds)) k = k true ds := rfl
theorem cont_tup {k : Bool → List PyData → Prop} : cont ρ (.dat (.tuple ds)) k = k false ds := rfl
theorem cont_own {k : Bool → List PyData → Prop} : cont ρ (.own t (.lst ds)) k = k true ds := rfl
theorem cont_ali {k : Bool → List PyData → Prop} : cont ρ (.ali i) k = contS ρ[i]? k := rfl
theorem contS_own {k : Bool → List PyData → Prop} : contS (some (some (.own t (.lst ds)))) k = k true ds := rfl
theorem ownL_own {k : Option Nat → List PyData → Prop} : ownL (some (some (.own t (.lst ds)))) k = k t ds := rfl
theorem ownO_own {k : Option Nat → OV → Prop} : ownO (some (some (.own t (.lst ds)))) k = k t (.lst ds) := rfl
theorem stor_dat {k : AS → Prop} : stor i (.dat d) ρ k = k (ρ.set i (some (.dat d))) := rfl
theorem stor_own {o : OV} {k : AS → Prop} : stor i (.own t o) ρ k = k (ρ.set i (some (.own t o))) := rfl
theorem iD_int {n : Int} {k : Int → Prop} : iD (.int n) k = k n := rfl
theorem ii_int {f : Int → Int → (PyData → Prop) → Prop} {m n : Int} {k : PyData → Prop} : ii f (.int m) (.int n) k = f m n k := rfl
theorem i1_int {f : Int → (PyData → Prop) → Prop} {m : Int} {k : PyData → Prop} : i1 f (.int m) k = f m k := rfl
theorem sAddU_int {m n : Int} {k : PyData → Prop} : sAddU (.int m) (.int n) k = k (.int (m + n)) := rfl
theorem sAddU_tup {k : PyData → Prop} : sAddU (.tuple ds) (.tuple es) k = (ds.length + es.length ≤ sizeLine ∧ k (.tuple (ds ++ es))) := rfl
theorem truS_none {k : Bool → Prop} : truS ρ (.dat .none) k = k false := rfl
theorem truS_bool {b : Bool} {k : Bool → Prop} : truS ρ (.dat (.bool b)) k = k b := rfl
theorem truS_int {n : Int} {k : Bool → Prop} : truS ρ (.dat (.int n)) k = k (n != 0) := rfl
theorem truS_list {k : Bool → Prop} : truS ρ (.dat (.list ds)) k = k (!ds.isEmpty) := rfl
theorem truS_tup {k : Bool → Prop} : truS ρ (.dat (.tuple ds)) k = k (!ds.isEmpty) := rfl
theorem truS_ali {k : Bool → Prop} : truS ρ (.ali i) k = contS ρ[i]? fun _ ds => k (!ds.isEmpty) := rfl
theorem srcOf_list {k : IS → Prop} : srcOf ρ (.dat (.list ds)) k = k ⟨ds, [], fun _ => True⟩ := rfl
theorem srcOf_tup {k : IS → Prop} : srcOf ρ (.dat (.tuple ds)) k = k ⟨ds, [], fun _ => True⟩ := rfl
theorem srcOf_ali {k : IS → Prop} : srcOf ρ (.ali i) k = ownL ρ[i]? fun _ ds => k ⟨ds, [i], fun ρ' => ownL ρ'[i]? fun _ es => es = ds⟩ := rfl
theorem got_some {α : Type} (x : α) (k : α → Prop) : got (some x) k = k x := rfl
theorem gZ_nil {k : AS → Prop} : gZ [] ρ k = k ρ := rfl
theorem gC_cons {T : ATG} {U : ATGs} {k : AS → Prop} : gC T U (d :: ds) ρ k = T d ρ fun ρ' => U ds ρ' k := rfl
theorem gT_tup {n : Nat} {U : ATGs} {k : AS → Prop} : gT n U (.tuple ds) ρ k = (ds.length = n ∧ U ds ρ k) := rfl
theorem onlyDat_dat {p : Prop} : onlyDat (.dat d) p = p := rfl
theorem notAli_dat {p : Prop} : notAli (.dat d) p = p := rfl
theorem notAli_own {o : OV} {p : Prop} : notAli (.own t o) p = p := rfl
theorem getO_some {k : OV → Prop} : getO (some (.lst ds)) k = k (.lst ds) := rfl
theorem fin_none {k : Option OV → Prop} : fin none ρ k = k none := rfl
theorem fin_some {o : OV} {k : Option OV → Prop} : fin (some o) ρ k = finO ρ[0]? k := rfl
theorem finO_own {o : OV} {k : Option OV → Prop} : finO (some (some (.own (some 0) o))) k = k (some o) := rfl
theorem callA_nil {a : ASp} {K : AV → AS → Prop} : callA a [] ρ K = a none [] fun x oo' => oo' = none ∧ notAli x (K x ρ) := rfl
theorem callA_dat {a : ASp} {r : List AV} {K : AV → AS → Prop} : callA a (.dat d :: r) ρ K = das (.dat d :: r) fun ds => a none ds fun x oo' => oo' = none ∧ notAli x (K x ρ) := rfl
theorem callA_ali {a : ASp} {r : List AV} {K : AV → AS → Prop} : callA a (.ali i :: r) ρ K = das r fun ds => ownO ρ[i]? fun t o => a (some o) ds fun x oo' => onlyDat x (getO oo' fun o' => K x (ρ.set i (some (.own t o')))) := rfl
theorem argS_none : argS none ds = ds.map fun d => some (.dat d) := rfl
theorem argS_some {o : OV} : argS (some o) ds = some (.own (some 0) o) :: ds.map fun d => some (.dat d) := rfl
theorem rt_ad {oo : Option OV} {Kc : AV → Option OV → Prop} {x : AV} : (adOf oo Kc).rt x ρ = notAli x (fin oo ρ (Kc x)) := rfl
theorem nx_ad {oo : Option OV} {Kc : AV → Option OV → Prop} : (adOf oo Kc).nx ρ = fin oo ρ (Kc (.dat .none)) := rfl
theorem isN_none {k : PyData → Prop} : sIsN .none .none k = k (.bool true) := by unfold sIsN; simp
theorem isN_tup {k : PyData → Prop} : sIsN (.tuple ds) .none k = k (.bool false) := by unfold sIsN; simp
theorem notN_none {k : PyData → Prop} : sNotN .none .none k = k (.bool false) := by unfold sNotN; simp
theorem notN_tup {k : PyData → Prop} : sNotN (.tuple ds) .none k = k (.bool true) := by unfold sNotN; simp
/-- one statement by itself: what holds behind it -/
theorem cut {T U : ATS} {A : AD} (J : AS → Prop) (h1 : ∀ Kn : AS → Prop, (∀ ρ', J ρ' → Kn ρ') → T { A with nx := Kn } ρ) (h2 : ∀ ρ', J ρ' → U A ρ') : aSeq T U A ρ := h1 (U A) h2
/-- one statement that leads to one state -/
theorem cut1 {T U : ATS} {A : AD} (ρ1 : AS) (h1 : ∀ Kn : AS → Prop, Kn ρ1 → T { A with nx := Kn } ρ) (h2 : U A ρ1) : aSeq T U A ρ := h1 (U A) h2
end
end Ab

set_option maxHeartbeats 4000000
/-! Ab13: the head: a law's promise by data is its promise. -/
namespace Ab
open PySem PySem.Spec PyProof.Rows L2
theorem head_of {K : PySem.W.Frag} {a : ASp} {H : Hp} {p : Addr} {ns : List Int} (hS : SqL K H p (ns.map V.int)) (h : ∀ Kc : AV → Option OV → Prop, Kc (.dat (.bool true)) none → a none [.list (ns.map PyData.int)] Kc) :
    toSp K a [.ref p] H (fun v _ => v = .bl true) fun _ _ _ => False := by
  refine ⟨⟨K, H, H, fun _ => none⟩, H, none, [.list (ns.map PyData.int)], fun x _ => x = .dat (.bool true), rfl, ⟨rfl, Same.refl H, Same.refl H, fun b o e => .inl e, fun i d e => ?_, fun _ _ => False, ⟨fun i t o e => ?_, fun i b z => z.elim, fun i j b z => z.elim⟩⟩, h _ rfl, ?_⟩
  · match i, e with
    | 0, e =>
      cases e
      exact ⟨.ref p, rfl, .lst hS (dpa_ints ns)⟩
  · match i, e with
    | 0, e => cases e
  · rintro x oo' rfl F' v H' _ r
    have g : Dp K F' v (.bool true) := by
      obtain ⟨F2, d, s2, I2, hd, k2⟩ := (Res.data (k := fun d => d = .bool true) r (by rfl))
      cases k2
      cases hd
      exact .bl _
    cases g
    rfl
end Ab

set_option maxHeartbeats 4000000
/-! Ab14: enumerate of lists and tuples that stay. -/
namespace PySem
theorem meets_enumerate_newT (l : Addr) (items : Array Value) (n : Nat) (dct : Option Addr) (sl : Array (Option Value)) :
    Meets (Builtin.«enumerate.__new__» ⟨[.type "enumerate", .ref l], []⟩) (fun _ R s => s.heap.get? l = some { cls := .type "tuple", dict := dct, data := .seq items n, slots := sl } ∧
      R (.ok (.ret (.ref (s.heap.push { cls := .type "tuple_iterator", data := .fields #[.ref l, .int 0 0] }).objs.size)))
        { s with heap := (s.heap.push { cls := .type "tuple_iterator", data := .fields #[.ref l, .int 0 0] }).push { cls := .type "enumerate", data := .fields #[.none, .bool false, .ref s.heap.objs.size, rawInt 0, .none, .none] } }) :=
  .of_wp fun prog w A R s h => by
    obtain ⟨hp, g, d, tk, os⟩ := s; obtain ⟨hl, h⟩ := h
    have hsub := sub_enumerate
    have hL : Heap.IsTuple (Shared.heap ⟨hp, g, d, tk, os⟩) l items := ⟨_, hl, rfl, n, rfl⟩
    wp_walk using AutoSeq1.wpAny_loadPart' hl
    refine wpAny_stack_any fun st => wpAny_pure ?_
    split
    · rename_i c _ _ _ _ _
      cases (c == Value.type "enumerate")
      · wp_walk using AutoSeq1.wpAny_loadPart' hl, wpAny_pyIter_tuple hL
        exact ⟨_, rfl, h⟩
      · wp_walk using AutoSeq1.wpAny_loadPart' hl, wpAny_pyIter_tuple hL
        exact ⟨_, rfl, h⟩
    · wp_walk using AutoSeq1.wpAny_loadPart' hl, wpAny_pyIter_tuple hL
      exact ⟨_, rfl, h⟩
theorem call_enumerate_tup {prog : Program} {w : World} {A : Around} {E : Value → Shared → Prop} {s : Shared} {l : Addr} {items : Array Value} {Q : Value → Shared → Prop} (hL : s.heap.IsTuple l items)
    (h : ∀ h', IsEnum h' (s.heap.objs.size + 1) s.heap.objs.size 0 .none → h'.IsTupleIter s.heap.objs.size l 0 → h'.objs.size = s.heap.objs.size + 2 →
      (∀ b o, s.heap.get? b = some o → h'.get? b = some o) → Q (.ref (s.heap.objs.size + 1)) { s with heap := h' }) :
    wpAny (model prog w) A (call (.type "enumerate") [.ref l]) Q E s := by
  obtain ⟨⟨c, dct, dt, sl⟩, hl, hc, n, hd⟩ := hL
  replace hc : c = .type "tuple" := hc
  replace hd : dt = .seq items n := hd
  subst hc hd
  refine callType_new F.called_enumerate (by decide) (F.typeCall_enumerate_1 _) (F.newCall_enumerate_1 _) (fun obj => F.args_object_init_2 obj _) F.entry_enumerate_new (meets_enumerate_newT l items n dct sl) ⟨hl, ?_⟩
  have hz : (s.heap.push { cls := .type "tuple_iterator", data := .fields #[.ref l, .int 0 0] }).objs.size = s.heap.objs.size + 1 := Heap.size_push ..
  show _ ∧ _
  rw [hz]
  have he : IsEnum ((s.heap.push { cls := .type "tuple_iterator", data := .fields #[.ref l, .int 0 0] }).push
      { cls := .type "enumerate", data := .fields #[.none, .bool false, .ref s.heap.objs.size, rawInt 0, .none, .none] }) (s.heap.objs.size + 1) s.heap.objs.size 0 .none := by
    have g := Heap.get?_push_size (s.heap.push { cls := .type "tuple_iterator", data := .fields #[.ref l, .int 0 0] }) (o := { cls := .type "enumerate", data := .fields #[.none, .bool false, .ref s.heap.objs.size, rawInt 0, .none, .none] }) rfl
    rw [hz] at g
    exact g
  exact ⟨⟨_, he, rfl⟩, h _ he ⟨_, Heap.get?_push_of_some _ (Heap.get?_push_size _ rfl), rfl, rfl⟩ (by rw [Heap.size_push, hz]) fun b o x => Heap.get?_push_of_some _ (Heap.get?_push_of_some _ x)⟩
end PySem
namespace Ab
open PySem PySem.Spec PyProof.Rows L2
/-- the tuple at a, each item in a new pair -/
def Itet (K : PySem.W.Frag) (a : Addr) : It :=
  ⟨fun i H => ∃ (xs : List V) (x : V), SqT K H a xs ∧ xs[i]? = some x, fun i H v H' => ∃ T x, v = .ref T ∧ H T = none ∧ H' = upd H T (.tup [.int (i : Nat), x]) ∧ ∀ xs, SqT K H a xs → xs[i]? = some x, fun i H => ∃ xs : List V, SqT K H a xs ∧ xs.length = i⟩
theorem turn_enumT {P : Program} {w : World} {K : PySem.W.Frag} {elts : List Expr} {kk : Nat} {tpos : Pos} (a e it : Addr) :
    Turn P w K (.Tuple elts kk tpos) (Itet K a) [e, it] e (fun i h => (∃ old, IsEnum h e it ((i : Nat) : Int) old) ∧ h.IsTupleIter it a i ∧ e ≠ it ∧ a ≠ it ∧ e ≠ a) where
  mem := by simp
  obj := fun i h st b hb => by
    obtain ⟨⟨old, he⟩, ⟨o, ho, hc, hd⟩, _⟩ := st
    have e' : b = e ∨ b = it := by simpa using hb
    rcases e' with z | z
    · rw [z]; exact ⟨_, he, fun v q => nomatch q⟩
    · rw [z]; exact ⟨o, ho, fun v q => by rw [hd] at q; cases q⟩
  keep := fun i h h' st k => let ⟨⟨old, he⟩, hi, hne⟩ := st; ⟨⟨old, k e (by simp) _ he⟩, hi.at fun o q => k it (by simp) o q, hne⟩
  item := by
    intro X hP hw hK hc i pins s σ H E I hf st hg
    subst hP hw hK
    obtain ⟨⟨old, he⟩, hit, hne, hai, hea⟩ := st
    obtain ⟨xs, x, hq, hx⟩ := hg
    obtain ⟨its, rv, p, hz⟩ := I.tuple hq
    have hp : s.heap.IsTuple a its.toArray := p
    obtain ⟨u, hu, ru⟩ := rv.get hx
    have hlt : i < its.toArray.size := by
      have := (List.getElem?_eq_some_iff.mp hu).1
      simpa using this
    have hel : e < s.heap.objs.size := Heap.lt_size he
    have hil : it < s.heap.objs.size := by obtain ⟨_, q, _⟩ := hit; exact Heap.lt_size q
    refine wpAny_pyNext_enum_itemD (Draws.tuple (A := X.A.in1) (show X.A.in1.handled = none from I.ok.hd hc) it a hai its.toArray) he ⟨hit, hp⟩ hlt hne (by simp [hne, hea]) fun v h' tk hv ho hit' hT hsz hk => ?_
    have hv' : v = u := by
      have g : its.toArray[i]? = some v := hv
      rw [List.getElem?_toArray, hu] at g
      exact (Option.some.inj g).symm
    subst hv'
    refine ⟨_, rfl, wpAny_letOwnedTupleGo_enum (s := { s with heap := h', toks := tk + 1 }) ho fun h'' he' sb => ?_⟩
    have hT2 : h''.get? s.heap.objs.size = some { cls := .type "tuple", data := .seq #[.int i tk, v] } := (sb.2 _ (Nat.ne_of_gt hel)).trans hT
    have new : ObjOk X.prog X.w (upd H s.heap.objs.size (.tup [.int (i : Nat), x])) h'' s.heap.objs.size (.tup [.int (i : Nat), x]) :=
      ⟨by show 2 ≤ sizeLine; decide, [.int i tk, v], .cons ⟨_, rfl⟩ (.cons ru .nil), ⟨_, hT2, rfl, _, rfl⟩⟩
    have I1 : Inv X pins σ (upd H s.heap.objs.size (.tup [.int (i : Nat), x])) { s with heap := h'', toks := tk + 1 } :=
      I.turnedNew (ch := [e, it]) (fun b ob hb q => (sb.2 b (fun z => hb (by simp [z]))).trans (hk b ob (fun z => hb (by simp [z])) (fun z => hb (by simp [z])) q)) hf (Nat.le_refl _) new
    refine ⟨.ref s.heap.objs.size, _, I1, rfl, ⟨_, x, rfl, I.hok.fresh (Nat.le_refl _), rfl, fun ys hy => by rw [I.tuple_inj hy hq]; exact hx⟩, ⟨⟨v, ?_⟩, hit'.1.at fun o q => (sb.2 it (Ne.symm hne)).trans q, hne, hai, hea⟩, fun b hb => ?_⟩
    · have e1 : ((i + 1 : Nat) : Int) = (i : Int) + 1 := by omega
      rw [e1]; exact he'
    · have hb' : b < s.heap.objs.size := by
        have e' : b = e ∨ b = it := by simpa using hb
        rcases e' with z | z
        · rw [z]; exact hel
        · rw [z]; exact hil
      rw [upd_ne (Nat.ne_of_lt hb')]
      exact (hf b hb).1
  done := by
    intro X hP hw hK hc i pins s σ H E I hf st hg
    subst hP hw hK
    obtain ⟨⟨old, he⟩, hit, hne, hai, hea⟩ := st
    obtain ⟨xs, hq, hx⟩ := hg
    obtain ⟨its, rv, p, hz⟩ := I.tuple hq
    have hp : s.heap.IsTuple a its.toArray := p
    obtain ⟨f0, f1, f2, f3, f4, f5⟩ := hf it (by simp)
    have hl := rv.length
    have hn : i = its.toArray.size := by
      rw [List.size_toArray]
      omega
    subst hn
    exact wpAny_pyNext_enum_endD (Draws.tuple (A := X.A.in1) (show X.A.in1.handled = none from I.ok.hd hc) it a hai its.toArray) he ⟨hit, hp⟩ fun h' eb => ⟨rfl, I.turned (t' := s.toks) (fun b o hb q => eb b o hb q) f0 f1 f3 f4 f5⟩
  self := fun A i s Q E st h => let ⟨⟨_, he⟩, _⟩ := st; wpAny_pyIter_enum he h
theorem pi_enumA {X : Cx} {e : Expr} {tl : TE} {p pos tpos : Pos} {elts : List Expr} {kk : Nat} (hg : Gl X "enumerate") (hm : X.mg "enumerate" = none) (ha : PE X e tl) (hs : starEach [e] X.env = (false, eval e X.env) :: starEach [] X.env := by rfl) :
    PI X (.Tuple elts kk tpos) (.Call (.Name "enumerate" p) [e] [] pos) (fun σ H R => tl σ H fun x H1 => ∃ a, x = .ref a ∧ (((∃ xs, SqL X.K H1 a xs) ∧ R (Ite X.K a) H1) ∨ ((∃ xs, SqT X.K H1 a xs) ∧ R (Itet X.K a) H1))) := by
  refine ⟨fun pins s σ H R I h => ?_⟩
  refine Call_ (ld_blt I hg hm boot_enumerate (PyProof.Rows.callWith_type1 (thn ((pa_cons ha pa_nil hs).run pos pins s σ H (fun vs H1 => match vs with | [x] => ∃ a, x = .ref a ∧ (((∃ xs, SqL X.K H1 a xs) ∧ R (Ite X.K a) H1) ∨ ((∃ xs, SqT X.K H1 a xs) ∧ R (Itet X.K a) H1)) | _ => False) I h) fun us s1 ⟨vs, H1, I1, r1, q1⟩ => ?_) hs rfl))
  match vs, r1, q1 with
  | [_], .cons r rr, q1 =>
    obtain ⟨a, ex, q⟩ := q1
    subst ex
    cases rr
    cases r
    have low : ∀ b, b ∈ [s1.heap.objs.size + 1, s1.heap.objs.size] → s1.heap.objs.size ≤ b := fun b hb => by
      have e' : b = s1.heap.objs.size + 1 ∨ b = s1.heap.objs.size := by simpa using hb
      rcases e' with z | z
      · rw [z]; exact Nat.le_add_right _ _
      · rw [z]; exact Nat.le_refl _
    rcases q with ⟨⟨xs, hq⟩, q⟩ | ⟨⟨xs, hq⟩, q⟩
    · obtain ⟨its, rv, p', hz⟩ := I1.list hq
      refine call_enumerate_list p'.isList fun h' he hit hsz hk => wpAny_pyIter_enum he ?_
      have I2 : Inv X pins σ H1 { s1 with heap := h' } := I1.kept (t' := s1.toks) hk
      exact ⟨s1.heap.objs.size + 1, [s1.heap.objs.size + 1, s1.heap.objs.size], _, _, H1, rfl, I2, turn_enum a (s1.heap.objs.size + 1) s1.heap.objs.size, ⟨⟨.none, he⟩, hit, Nat.succ_ne_self _⟩, fun b hb => I1.fpOk (low b hb) (I1.hok.fresh (low b hb)), q⟩
    · obtain ⟨its, rv, p', hz⟩ := I1.tuple hq
      have ht : s1.heap.IsTuple a its.toArray := p'
      have hal : a < s1.heap.objs.size := by
        obtain ⟨_, z, _⟩ := ht
        exact Heap.lt_size z
      refine call_enumerate_tup ht fun h' he hit hsz hk => wpAny_pyIter_enum he ?_
      have I2 : Inv X pins σ H1 { s1 with heap := h' } := I1.kept (t' := s1.toks) hk
      exact ⟨s1.heap.objs.size + 1, [s1.heap.objs.size + 1, s1.heap.objs.size], _, _, H1, rfl, I2, turn_enumT a (s1.heap.objs.size + 1) s1.heap.objs.size, ⟨⟨.none, he⟩, hit, Nat.succ_ne_self _, Nat.ne_of_lt hal, Nat.ne_of_gt (Nat.lt_succ_of_lt hal)⟩, fun b hb => I1.fpOk (low b hb) (I1.hok.fresh (low b hb)), q⟩
/-- the pairs that enumerate gives -/
def enumD : Nat → List PyData → List PyData
  | _, [] => []
  | k, d :: ds => .tuple [.int (k : Nat), d] :: enumD (k + 1) ds
theorem enumD_len : ∀ (ds : List PyData) (k : Nat), (enumD k ds).length = ds.length
  | [], _ => rfl
  | _ :: ds, k => by rw [enumD, List.length_cons, List.length_cons, enumD_len ds]
theorem enumD_get : ∀ (ds : List PyData) (k i : Nat) (d : PyData), ds[i]? = some d → (enumD k ds)[i]? = some (.tuple [.int ((k + i : Nat) : Int), d])
  | [], _, i, _, h => by simp at h
  | d :: ds, k, 0, _, h => by
    rw [List.getElem?_cons_zero] at h
    cases h
    rfl
  | _ :: ds, k, i + 1, d, h => by
    rw [enumD, List.getElem?_cons_succ, enumD_get ds (k + 1) i d (by simpa using h)]
    rw [show k + 1 + i = k + (i + 1) by omega]
def enS : AV → (IS → Prop) → Prop
  | .dat (.list ds), k => k ⟨enumD 0 ds, [], fun _ => True⟩
  | .dat (.tuple ds), k => k ⟨enumD 0 ds, [], fun _ => True⟩
  | _, _ => False
def aEnum (Te : ATE) : ATI := fun ρ K => Te ρ fun x ρ1 => arg x fun y => enS y fun S => K S ρ1
theorem itok_el {K : PySem.W.Frag} {F0 : Hp} {a : Addr} {vs : List V} {ds : List PyData} (h : SqL K F0 a vs) (ha : DpAll K F0 vs ds) : ItOk K (Ite K a) F0 (fun _ => True) ⟨enumD 0 ds, [], fun _ => True⟩ where
  go := fun i C F ρ σ H hK sF I _ _ hi => by
    have hi : i < (enumD 0 ds).length := hi
    rw [enumD_len, ← dpa_len ha] at hi
    exact ⟨vs, vs[i], (sF.trans I.fz).seq h, List.getElem?_eq_getElem hi⟩
  stop := fun i C F ρ σ H hK sF I _ _ hi => ⟨vs, (sF.trans I.fz).seq h, by
    have hi : i = (enumD 0 ds).length := hi
    rw [dpa_len ha, hi, enumD_len]
    exact Nat.le_refl _⟩
  yld := fun i C F ρ σ H x H2 hK sF I _ _ hi ⟨T, y, e, hT, e2, hy⟩ => by
    subst e
    subst e2
    have hi : i < (enumD 0 ds).length := hi
    rw [enumD_len] at hi
    have hy := hy vs ((sF.trans I.fz).seq h)
    obtain ⟨v, e1, e2⟩ := dpa_get ha (List.getElem?_eq_getElem hi)
    have : v = y := Option.some.inj (e1.symm.trans hy)
    subst this
    have d2 : Dp C.K F v ds[i] := hK ▸ dp_mono sF _ _ e2
    have sU : Same F (upd F T (.tup [.int (i : Nat), v])) := same_upd' (I.fnone hT)
    refine ⟨upd F T (.tup [.int (i : Nat), v]), _, sU, I.imm hT, (enumD_get ds 0 i _ (List.getElem?_eq_getElem hi)), dp_tup upd_same (.cons ?_ (.cons (dp_mono sU _ _ d2) .nil)), trivial⟩
    rw [Nat.zero_add]
    exact .int _
theorem itok_et {K : PySem.W.Frag} {F0 : Hp} {a : Addr} {vs : List V} {ds : List PyData} (h : SqT K F0 a vs) (ha : DpAll K F0 vs ds) : ItOk K (Itet K a) F0 (fun _ => True) ⟨enumD 0 ds, [], fun _ => True⟩ where
  go := fun i C F ρ σ H hK sF I _ _ hi => by
    have hi : i < (enumD 0 ds).length := hi
    rw [enumD_len, ← dpa_len ha] at hi
    exact ⟨vs, vs[i], same_t (sF.trans I.fz) h, List.getElem?_eq_getElem hi⟩
  stop := fun i C F ρ σ H hK sF I _ _ hi => ⟨vs, same_t (sF.trans I.fz) h, by
    have hi : i = (enumD 0 ds).length := hi
    rw [dpa_len ha, hi, enumD_len]⟩
  yld := fun i C F ρ σ H x H2 hK sF I _ _ hi ⟨T, y, e, hT, e2, hy⟩ => by
    subst e
    subst e2
    have hi : i < (enumD 0 ds).length := hi
    rw [enumD_len] at hi
    have hy := hy vs (same_t (sF.trans I.fz) h)
    obtain ⟨v, e1, e2⟩ := dpa_get ha (List.getElem?_eq_getElem hi)
    have : v = y := Option.some.inj (e1.symm.trans hy)
    subst this
    have d2 : Dp C.K F v ds[i] := hK ▸ dp_mono sF _ _ e2
    have sU : Same F (upd F T (.tup [.int (i : Nat), v])) := same_upd' (I.fnone hT)
    refine ⟨upd F T (.tup [.int (i : Nat), v]), _, sU, I.imm hT, (enumD_get ds 0 i _ (List.getElem?_eq_getElem hi)), dp_tup upd_same (.cons ?_ (.cons (dp_mono sU _ _ d2) .nil)), trivial⟩
    rw [Nat.zero_add]
    exact .int _
theorem i_enum {X : Cx} {e : Expr} {Te : ATE} {p pos tpos : Pos} {elts : List Expr} {kk : Nat} (hg : Gl X "enumerate") (hm : X.mg "enumerate" = none) (he : AE X e Te) (hs : starEach [e] X.env = (false, eval e X.env) :: starEach [] X.env := by rfl) :
    AI X (.Tuple elts kk tpos) (.Call (.Name "enumerate" p) [e] [] pos) (aEnum Te) := pi_of (pi_enumA hg hm he hs) fun σ H R ⟨C, F, ρ, Kc, hK, I, h, q⟩ => by
  refine ⟨C, F, ρ, _, hK, I, h, fun F1 v x ρ1 H1 s1 r1 k1 => ?_⟩
  obtain ⟨F2, y, s2, I2, hy, k2⟩ := r1.arg k1
  cases y with
  | dat d =>
    have hy : Dp C.K F2 v d := hy
    rw [hK] at hy
    cases hy with
    | lst hs ha => exact ⟨_, rfl, .inl ⟨⟨_, I2.fz.seq hs⟩, q F2 ρ1 H1 _ _ _ (s1.trans s2) I2 (itok_el hs ha) (fun _ _ => trivial) k2⟩⟩
    | tup hs ha => exact ⟨_, rfl, .inr ⟨⟨_, same_t I2.fz hs⟩, q F2 ρ1 H1 _ _ _ (s1.trans s2) I2 (itok_et hs ha) (fun _ _ => trivial) k2⟩⟩
    | _ => exact k2.elim
  | own t o => exact hy.elim
  | ali i => exact k2.elim
end Ab

set_option maxHeartbeats 4000000
/-! Ab15: order of data, x op= e by data, xs[::-1], tuples repeated, min and max of two, is of bools. -/
namespace Ab
open PySem PySem.Spec PyProof.Rows L2
open PySem.W (dataLt alike)
section
variable {X : Cx}
def rLtP (K : PySem.W.Frag) : R2 := fun x y H Q => ∃ d e, Dp K H x d ∧ Dp K H y e ∧ alike d e = true ∧ d ≠ .none ∧ min d.depth e.depth ≤ 50 ∧ Q (.bl (dataLt d e)) H
theorem op_ltP (hu : X.A.units + 64 < cLine) : OpR X (compareOp .Lt) (rLtP X.K) := by
  intro pins s σ H x y v u Q I rx ry h
  obtain ⟨d, e, hd, he, ha, hn, hm, q⟩ := h
  obtain ⟨as, r1⟩ := Dp.reads I d x v hd rx
  obtain ⟨bs, r2⟩ := Dp.reads I e y u he ry
  exact PySem.W.lt_data r1 r2 ha hn (by omega) ⟨.bl _, H, I, rfl, q⟩
def sLt : S2 := fun d e k => alike d e = true ∧ d ≠ .none ∧ min d.depth e.depth ≤ 50 ∧ k (.bool (dataLt d e))
theorem dr_lt {K : PySem.W.Frag} : DR2 K (rLtP K) sLt := fun C F ρ σ H x y dx dy Q Kd hK I hx hy ⟨h1, h2, h3, h4⟩ q => by
  subst hK
  exact ⟨dx, dy, dp_mono I.fz _ _ hx, dp_mono I.fz _ _ hy, h1, h2, h3, q F _ _ H (Same.refl F) I (.bl _) h4⟩
theorem sLt_int {a b : Int} {k : PyData → Prop} : sLt (.int a) (.int b) k = k (.bool (decide (a < b))) := by
  unfold sLt
  rw [PySem.W.dataLt_int]
  refine propext ⟨fun h => h.2.2.2, fun h => ⟨rfl, (fun z => nomatch z), ?_, h⟩⟩
  rw [depth_int]
  exact Nat.le_trans (Nat.min_le_left _ _) (Nat.zero_le _)
theorem sLt_ints {a b : List Int} {k : PyData → Prop} : sLt (.tuple (a.map .int)) (.tuple (b.map .int)) k = k (.bool (decide (a < b))) := by
  unfold sLt
  have e : dataLt (.tuple (a.map .int)) (.tuple (b.map .int)) = decide (a < b) := by
    rw [PySem.W.dataLt_tuple]
    exact PySem.W.dataLt_ints a b
  rw [e]
  refine propext ⟨fun h => h.2.2.2, fun h => ⟨alike_tI a b, (fun z => nomatch z), ?_, h⟩⟩
  have := depth_tI a
  have g : min (PyData.tuple (a.map .int)).depth (PyData.tuple (b.map .int)).depth ≤ (PyData.tuple (a.map .int)).depth := Nat.min_le_left _ _
  have g2 : (PyData.tuple (a.map PyData.int)).depth = 1 := this
  omega
/-- x op= e by data -/
def aAugD (i : Nat) (s : S2) (T : ATE) : ATS := fun A ρ => aName i ρ fun x _ => dd x fun dx => T ρ fun y ρ' => dd y fun dy => s dx dy fun d => A.nx (ρ'.set i (some (.dat d)))
theorem s_augD {i : Nat} {st : Stmt} {r : R2} {s : S2} {Te : ATE} (hs : DR2 X.K r s) (h : PS X st (tAug i (cE X.K Te) r)) : AStm X st (aAugD i s Te) := ps_of h fun D σ H ⟨C, F, ρ, A, hK, I, h, q1, q2, q3, q4⟩ => by
  unfold aAugD aName at h
  split at h
  · rename_i d hd
    obtain ⟨v, e1, e2⟩ := I.dat i d hd
    refine ⟨_, e1, C, F, ρ, _, hK, I, h, fun F1 w x ρ1 H1 s1 r1 k1 => ?_⟩
    obtain ⟨F2, d2, s2, I2, hd2, k2⟩ := r1.data k1
    exact hs C F2 ρ1 σ H1 v w d d2 _ _ hK I2 (dp_mono (s1.trans s2) _ _ e2) hd2 k2 fun F5 z dz H5 s5 I5 hz kz => q1 F5 _ _ _ ((s1.trans s2).trans s5) (I5.set_dat hz i) kz
  · exact h.elim
  · exact h.elim
/-- xs[::-1], a list -/
def aRev (Te : ATE) : ATE := fun ρ K => Te ρ fun x ρ1 => arg x fun y => cont ρ1 y fun b ds => b = true ∧ K (.own none (.lst ds.reverse)) ρ1
theorem dpa_snoc {K : PySem.W.Frag} {F : Hp} {v : V} {d : PyData} (h1 : Dp K F v d) : ∀ {vs : List V} {ds : List PyData}, DpAll K F vs ds → DpAll K F (vs ++ [v]) (ds ++ [d])
  | _, _, .nil => .cons h1 .nil
  | _, _, .cons h t => .cons h (dpa_snoc h1 t)
theorem dpa_rev {K : PySem.W.Frag} {F : Hp} : ∀ {vs : List V} {ds : List PyData}, DpAll K F vs ds → DpAll K F vs.reverse ds.reverse
  | _, _, .nil => .nil
  | _, _, .cons h t => by
    rw [List.reverse_cons, List.reverse_cons]
    exact dpa_snoc h (dpa_rev t)
theorem e_rev {e : Expr} {Te : ATE} {k : Nat} {p1 p2 p3 pos : Pos} (he : AE X e Te) : AE X (.Subscript e (.Slice none none (some (.UnaryOp .USub (.Constant (.int 1) k p1) p2)) p3) pos) (aRev Te) := pe_of (pe_revL he) fun σ H Q ⟨C, F, ρ, Kc, hK, I, h, q⟩ => by
  refine ⟨C, F, ρ, _, hK, I, h, fun F1 v x ρ1 H1 s1 r1 k1 => ?_⟩
  obtain ⟨F2, y, s2, I2, hy, k2⟩ := r1.arg k1
  obtain ⟨a, vs, b, ds, rfl, h3, _, h4, hb, k3⟩ := hy.cont I2 k2
  subst hb
  rw [hK] at h3
  exact ⟨a, vs, rfl, h3, fun p hp => q F2 _ (.own none (.lst _)) ρ1 _ (s1.trans s2) (I2.newOwn hp (dpa_rev h4)) k3⟩
/-- t * n, a tuple -/
def sRepT : S2 := fun d e k => match d, e with
  | .tuple ds, .int n => ds ≠ [] ∧ 2 ≤ n ∧ n ≤ 1000 ∧ ds.length ≤ 1000 ∧ k (.tuple (List.replicate n.toNat ds).flatten)
  | _, _ => False
theorem dr_repT {K : PySem.W.Frag} : DR2 K (rRepT K) sRepT := fun C F ρ σ H x y dx dy Q Kd hK I hx hy h q => by
  unfold sRepT at h
  split at h
  · obtain ⟨h1, h2, h3, h4, h5⟩ := h
    cases hy
    cases hx with
    | tup hs ha =>
      subst hK
      have hl := dpa_len ha
      refine ⟨_, _, _, rfl, rfl, same_t I.fz hs, fun z => h1 ?_, h2, h3, by omega, fun p hp => ?_⟩
      · rw [z] at hl
        exact List.eq_nil_of_length_eq_zero hl.symm
      · exact q (upd F p _) _ _ _ (same_upd' (I.fnone hp)) (I.imm hp) (dp_tup upd_same (dpa_mono (same_upd' (I.fnone hp)) _ _ (dpa_rep ha _))) h5
  · exact h.elim
theorem e_repT {a b : Expr} {Ta Tb : ATE} {pos : Pos} (ha : AE X a Ta) (hb : AE X b Tb) : AE X (.BinOp a .Mult b pos) (aBin sRepT Ta Tb) := e_op op_repT dr_repT ha hb
theorem sRepT_tup {ds : List PyData} {n : Int} {k : PyData → Prop} : sRepT (.tuple ds) (.int n) k = (ds ≠ [] ∧ 2 ≤ n ∧ n ≤ 1000 ∧ ds.length ≤ 1000 ∧ k (.tuple (List.replicate n.toNat ds).flatten)) := rfl
/-- is, is not, of bools -/
def sIsB : S2 := fun d e k => match d, e with
  | .bool a, .bool b => k (.bool (decide (a = b)))
  | _, _ => False
def sNotB : S2 := fun d e k => match d, e with
  | .bool a, .bool b => k (.bool (!decide (a = b)))
  | _, _ => False
theorem sIsB_eq {a b : Bool} {k : PyData → Prop} : sIsB (.bool a) (.bool b) k = k (.bool (decide (a = b))) := rfl
theorem sNotB_eq {a b : Bool} {k : PyData → Prop} : sNotB (.bool a) (.bool b) k = k (.bool (!decide (a = b))) := rfl
theorem dr_isB {K : PySem.W.Frag} : DR2 K rIsB sIsB := fun C F ρ σ H x y dx dy Q Kd hK I hx hy h q => by
  unfold sIsB at h
  split at h
  · cases hx
    cases hy
    exact ⟨_, _, rfl, rfl, q F _ _ H (Same.refl F) I (.bl _) h⟩
  · exact h.elim
theorem dr_notB {K : PySem.W.Frag} : DR2 K rNotB sNotB := fun C F ρ σ H x y dx dy Q Kd hK I hx hy h q => by
  unfold sNotB at h
  split at h
  · cases hx
    cases hy
    exact ⟨_, _, rfl, rfl, q F _ _ H (Same.refl F) I (.bl _) h⟩
  · exact h.elim
/-- a call of a built-in with two arguments, by data -/
def aCall2 (s : S2) (Ta Tb : ATE) : ATE := fun ρ K => Ta ρ fun x ρ1 => dd x fun dx => Tb ρ1 fun y ρ2 => dd y fun dy => s dx dy fun d => K (.dat d) ρ2
theorem e_callB2 {id : String} {x : Str} {p pos : Pos} {e f : Expr} {Ta Tb : ATE} {r : List V → Hp → VK → Prop} {s : S2} (hc : CallR X (.builtin id) r) (hs : DR2 X.K (fun x y H Q => r [x, y] H Q) s) (hg : Gl X x) (hm : X.mg x = none) (hv : bootBuiltins x = some (.builtin id)) (ha : AE X e Ta) (hb : AE X f Tb) (hn : x ≠ "__name__" := by decide) (hdb : (x == ("__debug__" : Str)) = false := by decide)
    (hst : starEach [e, f] X.env = (false, eval e X.env) :: starEach [f] X.env := by rfl) (hst2 : starEach [f] X.env = (false, eval f X.env) :: starEach [] X.env := by rfl) : AE X (.Call (.Name x p) [e, f] [] pos) (aCall2 s Ta Tb) :=
  pe_of (pe_callB hc hg hm hv (pa_cons ha (pa_cons hb pa_nil hst2) hst) hn hdb hst (by rw [hst2]; rfl)) fun σ H Q ⟨C, F, ρ, Kc, hK, I, h, q⟩ => by
    refine ⟨C, F, ρ, _, hK, I, h, fun F1 v x ρ1 H1 s1 r1 k1 => ?_⟩
    obtain ⟨F2, d, s2, I2, hd, k2⟩ := r1.data k1
    refine ⟨C, F2, ρ1, _, hK, I2, k2, fun F3 w y ρ2 H2 s3 r3 k3 => ?_⟩
    obtain ⟨F4, e, s4, I4, he, k4⟩ := r3.data k3
    have hd4 := dp_mono (s3.trans s4) _ _ hd
    rw [hK] at hd4 he
    exact hs C F4 ρ2 σ H2 v w d e Q _ hK I4 (hK ▸ hd4) (hK ▸ he) k4 fun F5 z dz H5 s5 I5 hz kz => q F5 z (.dat dz) ρ2 H5 ((((s1.trans s2).trans s3).trans s4).trans s5) ⟨I5, hz⟩ kz
theorem dr_min2 {K : PySem.W.Frag} : DR2 K (fun x y H Q => (fun xs H Q => ∃ i j : Int, xs = [V.int i, V.int j] ∧ Q (V.int (if j < i then j else i)) H) [x, y] H Q) (ii fun i j k => k (.int (if j < i then j else i))) := fun C F ρ σ H x y dx dy Q Kd hK I hx hy h q => by
  obtain ⟨i, j, rfl, rfl, h⟩ := ii_ok hx hy h
  exact ⟨i, j, rfl, q F _ _ H (Same.refl F) I (.int _) h⟩
theorem dr_max2 {K : PySem.W.Frag} : DR2 K (fun x y H Q => (fun xs H Q => ∃ i j : Int, xs = [V.int i, V.int j] ∧ Q (V.int (if j > i then j else i)) H) [x, y] H Q) (ii fun i j k => k (.int (if j > i then j else i))) := fun C F ρ σ H x y dx dy Q Kd hK I hx hy h q => by
  obtain ⟨i, j, rfl, rfl, h⟩ := ii_ok hx hy h
  exact ⟨i, j, rfl, q F _ _ H (Same.refl F) I (.int _) h⟩
end
end Ab

set_option maxHeartbeats 4000000
/-! Ab16: sorted(d), d a dict whose keys are tuples of ints. -/
namespace Ab
open PySem PySem.Spec PyProof.Rows L2
open PySem.W (EachIs dataLe Sortable AllAlike SortsAt dataKind)
section
variable {prog : Program} {w : World} {A : Around} {s : Shared}
theorem sorts_one {vs : List Value} {ds : List PyData} (e : EachIs (fun v d => ∃ as, Reads s.heap v d as) vs ds) (hal : AllAlike ds) (hl : vs.length ≤ 1) (hn : ∀ d ∈ ds, d ≠ .none) (hu : ∀ d, d ∈ ds → A.units + d.depth < cLine) : SortsAt prog w A s (dataKind s.heap ds) vs := by
  have room : ∀ {d d' : PyData}, d ∈ ds → A.units + min d.depth d'.depth < cLine := fun {d d'} hd => Nat.lt_of_le_of_lt (Nat.add_le_add_left (Nat.min_le_left _ _) _) (hu d hd)
  refine ⟨fun v hv => ?_, general', ?_, fun h2 => absurd h2 (by omega)⟩
  · obtain ⟨d, hd, as, r⟩ := e.left v hv
    exact ⟨_, PySem.W.dataKind_some hal hd r⟩
  · intro E x y a b Q ha hb hq
    obtain ⟨d, as, hd, ra, rfl⟩ := PySem.W.dataKind_inv ha
    obtain ⟨d', as', hd', rb, rfl⟩ := PySem.W.dataKind_inv hb
    show wpAny _ _ (oneLt' false x y) _ _ _
    exact PySem.W.oneLt_alike (fun z => nomatch z) ra rb (hal d hd d' hd') (hn d hd) (room hd) hq
end
section
variable {prog : Program} {w : World} {A : Around} {E : Value → Shared → Prop} {s : Shared} {β : Type} {vs : List Value} {bs : List β} {enc : β → PyData} {R : Value → β → Prop}
/-- xs.sort(), few items of one kind -/
theorem list_sort_dataS {a : Addr} {n : Nat} {Q : Value → Shared → Prop} (ho : s.heap.get? a = some (seqObj "list" vs.toArray n)) (e : EachIs R vs bs) (er : EachIs (fun v b => ∃ as, Reads s.heap v (enc b) as ∧ a ∉ as) vs bs) (hal : AllAlike (bs.map enc)) (hk : Sortable (bs.map enc) ∨ (bs.length ≤ 1 ∧ ∀ d ∈ bs.map enc, d ≠ .none)) (hL : bs.length ≤ sizeLine)
    (hu : ∀ b, b ∈ bs → A.units + 1 + (enc b).depth < cLine) (h : ∀ out, out.length = bs.length → EachIs R out (bs.mergeSort (dataLe false enc)) → Q .none { s with heap := sortedHeap s.heap a vs (List.toArray out) }) :
    wpAny (model prog w) A (call (.builtin "list.sort") [.ref a]) Q E s := by
  rcases hk with hk | ⟨hk, hn⟩
  · exact PySem.W.list_sort_data ho e er hal hk hL hu h
  · have er' : EachIs (fun v b => ∃ as, Reads (PySem.W.sortingHeap s.heap a vs) v (enc b) as) vs bs := PySem.W.each_keepBut (h' := PySem.W.sortingHeap s.heap a vs) (fun _ _ hb q => PySem.W.sortingHeap_old hb q) (fun o q => by rw [ho] at q; rw [← Option.some.inj q]) hal er
    have hl := e.length
    refine wpAny_call_entry slot_list_sort ⟨_, ho, rfl⟩ entry_list_sort (PySem.W.list_sort_vals (κ := dataKind (PySem.W.sortingHeap s.heap a vs) (bs.map enc)) ho (sorts_one (s := { s with heap := PySem.W.sortingHeap s.heap a vs }) (PySem.W.each_map (R := fun v d => ∃ as, Reads (PySem.W.sortingHeap s.heap a vs) v d as) enc er') hal (by omega) hn (PySem.W.bound_map hu)) (by omega) ⟨.none, rfl, ?_⟩) (PyProof.Rows.args_list_sort _)
    exact h _ (by rw [PySem.W.sortVals_length false rfl]; exact e.length) (PySem.W.sortVals_data false e er' hal)
end
section
variable {X : Cx}
def rSortDT (K : PySem.W.Frag) : List V → Hp → VK → Prop := fun vs H Q => ∃ (a : Addr) (ks : List (List Int × V)), vs = [V.ref a] ∧ H a = some (.dT (ks.map fun p => (p.1.map Sum.inl, p.2))) ∧ ks.length < 64 ∧ ((∀ p ∈ ks, p.1 ≠ []) ∨ ks.length ≤ 1) ∧
  ∀ (L1 : List (Addr × List Int)) (p : Addr), (L1.map (·.2)).Perm (ks.map (·.1)) → (∀ q ∈ L1, H q.1 = some (.tup (q.2.map V.int))) → L1.Pairwise (fun q r => dataLe false (fun q : Addr × List Int => tI q.2) q r = true) → H p = none → Q (.ref p) (upd H p (.lst (L1.map fun q => V.ref q.1)))
theorem kt_list {H : Hp} : ∀ {ks : List (List Int × V)} {xs : List (List Key × Addr × Value)}, Paired (fun (p : List Key × V) (q : List Key × Addr × Value) => p.1 = q.1 ∧ H q.2.1 = some (.tup (p.1.map kV)) ∧ RelV p.2 q.2.2) (ks.map fun p => (p.1.map Sum.inl, p.2)) xs →
    ∃ L : List (Addr × List Int), L.map (·.2) = ks.map (·.1) ∧ (L.map fun q => Value.ref q.1) = xs.map (fun x => Value.ref x.2.1) ∧ ∀ q ∈ L, H q.1 = some (.tup (q.2.map V.int))
  | [], _, .nil => ⟨[], rfl, rfl, fun _ z => nomatch z⟩
  | p :: ks, _, .cons (b := q) h t => by
    obtain ⟨L, e1, e2, e3⟩ := kt_list t
    refine ⟨(q.2.1, p.1) :: L, by rw [List.map_cons, List.map_cons, e1], by rw [List.map_cons, List.map_cons, e2], fun r hr => ?_⟩
    rcases List.mem_cons.mp hr with rfl | hr
    · have g := h.2.1
      rw [List.map_map] at g
      exact g
    · exact e3 r hr
theorem cr_sortD2 (hc : X.calm = true) (hu : X.A.units + 64 < cLine) : CallR X (.builtin "sorted") (rSortDT X.K) := by
  intro pins s σ H vs us Q I r h
  obtain ⟨a, ks, rfl, ha, hf, hne, q⟩ := h
  rw [Vals.ref1 r]
  obtain ⟨z, hs, xs, pr, o, es, ep, ho, hx, hdt, he, hn⟩ := (show ObjOk X.prog X.w H s.heap a (.dT (ks.map fun p => (p.1.map Sum.inl, p.2))) from I.hok a _ ha)
  obtain ⟨L, e1, e2, e3⟩ := kt_list pr
  have l1 : es.size = xs.length := size_of_entries he
  have l2 : ks.length = xs.length := by
    have g := Paired.length pr
    rwa [List.length_map] at g
  have hh := I.ok.hd hc
  have hlL : L.length = ks.length := by
    have g := congrArg List.length e1
    rwa [List.length_map, List.length_map] at g
  refine Calls.call_function_entry PyProof.Rows.kind_sorted PyProof.Rows.plain_sorted PyProof.Rows.entry_sorted (PyProof.Rows.args_sorted1 _) ?_
  unfold Builtin.«sorted»
  refine wpAny_bind (m := checkCount "sorted" 1 1 _) (wpAny_pure ?_)
  refine wpAny_bind (PySem.W.kdu_collect (A := X.A.in1) (kdl_raw hs hx hdt) hh ho (by rw [sizeLine_eq]; omega) fun h' tk acc kp it => ?_)
  have ea : acc.toList = L.map fun q => Value.ref q.1 := by
    rw [e2]
    have hl : acc.toList.length = xs.length := by rw [Array.length_toList, it.1]; exact l1
    apply List.ext_getElem?
    intro j
    rw [List.getElem?_map]
    cases hj : acc.toList[j]? with
    | none =>
      have h1 := List.getElem?_eq_none_iff.mp hj
      rw [List.getElem?_eq_none (by omega)]
      all_goals rfl
    | some v =>
      obtain ⟨en, hen, hv⟩ := it.2 j v (by rw [← Array.getElem?_toList]; exact hj)
      have qe := entry_at he j
      rw [hen] at qe
      cases hb : xs[j]? with
      | none =>
        rw [hb] at qe
        exact nomatch (show some en = none from qe)
      | some b =>
        rw [hb] at qe
        have e2 : en = entryOfKey (tupleKind (mixKind X.prog X.w)) b := Option.some.inj qe
        rw [hv, e2]
        all_goals rfl
  have hvl : acc.toList.length = L.length := by rw [ea, List.length_map]
  have hacc : acc.toList.toArray = acc := Array.toArray_toList
  refine wpAny_bind (wpAny_newList ?_ (by rw [sizeLine_eq]; omega))
  have hoL : (h'.push (seqObj "list" acc.toList.toArray 0)).get? h'.objs.size = some (seqObj "list" acc.toList.toArray 0) := Heap.get?_push_size _ rfl
  have isT : ∀ q ∈ L, IsT X.prog X.w s.heap q.2 q.1 := fun q hq => I.isT (SqT.of (e3 q hq))
  have rd : ∀ q ∈ L, Reads (h'.push (seqObj "list" acc.toList.toArray 0)) (.ref q.1) (tI q.2) [] := fun q hq => isT_reads (P := X.prog) (w := X.w) (isT_keep (isT q hq) fun b u e => Heap.get?_push_of_some _ (kp b u e))
  have f1 : ∀ l : List (Addr × List Int), EachIs (fun v (q : Addr × List Int) => v = Value.ref q.1) (l.map fun q => Value.ref q.1) l := fun l => by
    induction l with
    | nil => exact .nil
    | cons q l ih => exact .cons rfl ih
  have f2 : ∀ l : List (Addr × List Int), (∀ q ∈ l, q ∈ L) → EachIs (fun v (q : Addr × List Int) => ∃ as, Reads (h'.push (seqObj "list" acc.toList.toArray 0)) v (tI q.2) as ∧ h'.objs.size ∉ as) (l.map fun q => Value.ref q.1) l := fun l => by
    induction l with
    | nil => intro _; exact .nil
    | cons q l ih => intro hs; exact .cons ⟨[], rd q (hs q List.mem_cons_self), by simp⟩ (ih fun r hr => hs r (List.mem_cons_of_mem _ hr))
  have hA : AllAlike (L.map fun q => tI q.2) := PySem.W.AllAlike.of fun b b' => alike_tI b.2 b'.2
  have hS : Sortable (L.map fun q => tI q.2) ∨ (L.length ≤ 1 ∧ ∀ d ∈ L.map (fun q => tI q.2), d ≠ PyData.none) := by
    rcases hne with hne | hne
    · refine .inl (.inl fun d hd => ?_)
      obtain ⟨q, hq, rfl⟩ := List.mem_map.mp hd
      have hq2 : q.2 ∈ ks.map (·.1) := by
        rw [← e1]
        exact List.mem_map.mpr ⟨q, hq, rfl⟩
      obtain ⟨p, hp, ep⟩ := List.mem_map.mp hq2
      have hn := hne p hp
      cases e : q.2 with
      | nil => exact absurd (ep.trans e) hn
      | cons x r => exact ⟨.int x, r.map .int, rfl⟩
    · refine .inr ⟨by omega, fun d hd => ?_⟩
      obtain ⟨q, hq, rfl⟩ := List.mem_map.mp hd
      exact fun z => nomatch z
  refine wpAny_bind (wpAny_holding ?_)
  refine list_sort_dataS (s := { s with heap := h'.push (seqObj "list" acc.toList.toArray 0), toks := tk }) (R := fun v (q : Addr × List Int) => v = Value.ref q.1) (enc := fun q : Addr × List Int => tI q.2) (bs := L) (vs := acc.toList) hoL (by rw [ea]; exact f1 L) (by rw [ea] at f2 ⊢; exact f2 L fun _ h => h) hA hS (by rw [sizeLine_eq]; omega) (fun b hb => ?_) fun out ho2 hE => ?_
  · rw [depth_tI]
    show X.A.in1.units + 1 + 1 < cLine
    have : X.A.in1.units = X.A.units + 1 := rfl
    omega
  · obtain ⟨c, hc⟩ := sortedHeap_at (vs := acc.toList) (out := out.toArray) hoL
    have eo : out = (L.mergeSort (dataLe false fun q : Addr × List Int => tI q.2)).map fun q => Value.ref q.1 := each_eq hE
    have I1 : Inv X pins σ H { s with heap := h', toks := tk } := I.kept kp
    have hn2 : H h'.objs.size = none := I1.hok.fresh (Nat.le_refl _)
    have pm := List.mergeSort_perm L (dataLe false fun q : Addr × List Int => tI q.2)
    have hv : Vals ((L.mergeSort (dataLe false fun q : Addr × List Int => tI q.2)).map fun q => V.ref q.1) out := by rw [eo]; exact vals_of_refs _
    have hlen : ((L.mergeSort (dataLe false fun q : Addr × List Int => tI q.2)).map fun q => V.ref q.1).length ≤ sizeLine := by rw [List.length_map, List.length_mergeSort, sizeLine_eq]; omega
    refine wpAny_pure ⟨_, rfl, ?_⟩
    have k : ∀ b u, h'.get? b = some u → (sortedHeap (h'.push (seqObj "list" acc.toList.toArray 0)) h'.objs.size acc.toList out.toArray).get? b = some u := fun b u e => by
      have hlt := Heap.lt_size e
      rw [sortedHeap_old (Nat.ne_of_lt hlt) (by rw [size_push']; exact Nat.lt_succ_of_lt hlt)]
      exact Heap.get?_push_of_some _ e
    exact ⟨.ref h'.objs.size, _, I1.laid (t' := tk) (o := .lst ((L.mergeSort (dataLe false fun q : Addr × List Int => tI q.2)).map fun q => V.ref q.1)) k (Nat.le_refl _) ⟨hlen, out, c, hv, hc⟩, rfl, q _ _ ((pm.map (·.2)).trans (by rw [e1])) (fun r hr => e3 r (pm.mem_iff.mp hr)) (PySem.W.sort_pairwise (PySem.W.sortLe_total _ _ _) L) hn2⟩
end
end Ab

set_option maxHeartbeats 4000000
/-! Ab17: dicts of lists: {}, d.setdefault(k, []).append(x), sorted(d), tuple(d[k]). -/
namespace Ab
open PySem PySem.Spec PyProof.Rows L2
open PySem.W (dataLe)
section
variable {C : Fx} {F F' : Hp} {ρ : AS} {σ : St} {H H' : Hp} {p : Addr}
theorem SOk.newO {ho : HO} {o : OV} (I : SOk C F ρ σ H) (hp : H p = none) (h : Ho C.K F (upd H p ho) p (fun b => b = p) o) : SOk C F (some (.own none o) :: ρ) (some (.ref p) :: σ) (upd H p ho) := by
  have hF := I.fnone hp
  have hB := I.bnone hp
  have J := I.grow (same_upd' (o := ho) hp)
  obtain ⟨T, t1, t2, t3⟩ := I.own
  have nT : ∀ i b, T i b → b ≠ p := fun i b sb z => (t2 i b sb).2.2 (by rw [z]; exact hp)
  refine ⟨by simp [I.len], J.fz, J.fr, J.nf, fun i d' q => ?_, fun i b => match i with | 0 => b = p | i + 1 => T i b, fun i t o q => ?_, fun i b sb => ?_, fun i j b si sj => ?_⟩
  · cases i with
    | zero => simp at q
    | succ i => simpa using J.dat i d' (by simpa using q)
  · cases i with
    | zero =>
      simp at q
      obtain ⟨rfl, rfl⟩ := q
      exact ⟨p, rfl, h, fun j e => nomatch e⟩
    | succ i =>
      obtain ⟨a, e1, e2, e3⟩ := t1 i t o (by simpa using q)
      exact ⟨a, by simpa using e1, ho_mono (Same.refl F) (fun b sb => upd_ne (nT i b sb)) e2, e3⟩
  · cases i with
    | zero =>
      have e : b = p := sb
      subst e
      exact ⟨hF, hB, by rw [upd_same]; simp⟩
    | succ i =>
      have sb' : T i b := sb
      rw [upd_ne (nT i b sb')]
      exact t2 i b sb'
  · cases i with
    | zero =>
      cases j with
      | zero => rfl
      | succ j => exact absurd si (nT j b sj)
    | succ i =>
      cases j with
      | zero => exact absurd sj (nT i b si)
      | succ j =>
        have := t3 i j b si sj
        omega
/-- an owned object is changed -/
theorem SOk.mutG {S : Nat → Addr → Prop} {i : Nat} {t : Option Nat} {o o' : OV} {a : Addr} {S' : Addr → Prop} (I : SOk C F ρ σ H) (w : OwnS C F ρ σ H S) (hi : ρ[i]? = some (some (.own t o))) (ha : σ[i]? = some (some (.ref a))) (ho : Ho C.K F H' a S' o') (h1 : ∀ b, S' b → S i b ∨ H b = none) (h2 : ∀ b, ¬ S' b → H b ≠ none → H' b = H b) (h3 : ∀ b, S' b → H' b ≠ none) :
    SOk C F (ρ.set i (some (.own t o'))) σ H' := by
  obtain ⟨s1, s2, s3⟩ := w
  have ilt : i < ρ.length := (List.getElem?_eq_some_iff.mp hi).1
  have nF : ∀ b, S' b → F b = none ∧ C.B b = none := fun b sb => by
    rcases h1 b sb with z | z
    · exact ⟨(s2 i b z).1, (s2 i b z).2.1⟩
    · exact ⟨I.fnone z, I.bnone z⟩
  have keep : ∀ b, ¬ S' b → H b ≠ none → H' b = H b := h2
  refine ⟨by simp [I.len], fun b u q => ?_, fun b u q => ?_, I.nf, fun j d q => ?_, fun j b => if j = i then S' b else S j b ∧ ∃ t o, ρ[j]? = some (some (AV.own t o)), fun j t' ov q => ?_, fun j b sb => ?_, fun j k b sj sk => ?_⟩
  · have e := I.fz b u q
    rw [keep b (fun z => by rw [(nF b z).1] at q; cases q) (by rw [e]; simp)]
    exact e
  · have e := I.fr b u q
    rw [keep b (fun z => by rw [(nF b z).2] at q; cases q) (by rw [e]; simp)]
    exact e
  · rw [List.getElem?_set] at q
    split at q
    · simp at q
    · exact I.dat j d q
  · rw [List.getElem?_set] at q
    split at q
    · rename_i hij
      subst hij
      simp at q
      obtain ⟨rfl, rfl⟩ := q
      obtain ⟨a', e1, _, e5⟩ := s1 i t _ hi
      have : a' = a := by rw [ha] at e1; simpa using e1.symm
      subst this
      refine ⟨a', ha, ?_, e5⟩
      have e : (fun b => if i = i then S' b else S i b ∧ ∃ t o, ρ[i]? = some (some (AV.own t o))) = S' := by funext b; simp
      show Ho C.K F H' a' (fun b => if i = i then S' b else S i b ∧ ∃ t o, ρ[i]? = some (some (AV.own t o))) _
      rw [e]
      exact ho
    · rename_i hij
      have hji : j ≠ i := fun z => hij z.symm
      obtain ⟨c, f1, f2, f3⟩ := s1 j t' ov q
      refine ⟨c, f1, ?_, f3⟩
      have e : (fun b => if j = i then S' b else S j b ∧ ∃ t o, ρ[j]? = some (some (AV.own t o))) = S j := by funext b; simp [hji, q]
      show Ho C.K F H' c (fun b => if j = i then S' b else S j b ∧ ∃ t o, ρ[j]? = some (some (AV.own t o))) ov
      rw [e]
      refine ho_mono (Same.refl F) (fun b sb => keep b (fun z => ?_) (s2 j b sb).2.2) f2
      rcases h1 b z with z | z
      · exact hji (s3 _ _ b sb z)
      · exact (s2 j b sb).2.2 z
  · have sb : (if j = i then S' b else S j b ∧ ∃ t o, ρ[j]? = some (some (AV.own t o))) := sb
    by_cases hji : j = i
    · rw [if_pos hji] at sb
      exact ⟨(nF b sb).1, (nF b sb).2, h3 b sb⟩
    · rw [if_neg hji] at sb
      obtain ⟨n1, n2, n3⟩ := s2 j b sb.1
      refine ⟨n1, n2, ?_⟩
      rw [keep b (fun z => ?_) n3]
      · exact n3
      · rcases h1 b z with z | z
        · exact hji (s3 _ _ b sb.1 z)
        · exact n3 z
  · have sj : (if j = i then S' b else S j b ∧ ∃ t o, ρ[j]? = some (some (AV.own t o))) := sj
    have sk : (if k = i then S' b else S k b ∧ ∃ t o, ρ[k]? = some (some (AV.own t o))) := sk
    have cross : ∀ m, m ≠ i → S m b → S' b → False := fun m hm sm z => by
      rcases h1 b z with z | z
      · exact hm (s3 _ _ b sm z)
      · exact (s2 m b sm).2.2 z
    by_cases hj : j = i
    · by_cases hk : k = i
      · rw [hj, hk]
      · rw [if_pos hj] at sj
        rw [if_neg hk] at sk
        exact (cross k hk sk.1 sj).elim
    · by_cases hk : k = i
      · rw [if_neg hj] at sj
        rw [if_pos hk] at sk
        exact (cross j hj sj.1 sk).elim
      · rw [if_neg hj] at sj
        rw [if_neg hk] at sk
        exact s3 _ _ b sj.1 sk.1
/-- tuples that the heap has are data from now on -/
theorem SOk.frzT (I : SOk C F ρ σ H) (L : List (Addr × List V)) (hL : ∀ q ∈ L, H q.1 = some (.tup q.2)) : ∃ F', Same F F' ∧ SOk C F' ρ σ H ∧ ∀ q ∈ L, F' q.1 = some (.tup q.2) := by
  let F' : Hp := fun b => match F b with
    | some o => some o
    | none => if b ∈ L.map Prod.fst then H b else none
  have e1 : ∀ b o, F b = some o → F' b = some o := fun b o e => by
    show (match F b with | some o => some o | none => if b ∈ L.map Prod.fst then H b else none) = some o
    rw [e]
  have e2 : ∀ b, F b = none → F' b = if b ∈ L.map Prod.fst then H b else none := fun b e => by
    show (match F b with | some o => some o | none => if b ∈ L.map Prod.fst then H b else none) = _
    rw [e]
  have tupL : ∀ b, b ∈ L.map Prod.fst → ∃ xs, H b = some (.tup xs) := fun b hb => by
    obtain ⟨q, hq, rfl⟩ := List.mem_map.mp hb
    exact ⟨q.2, hL q hq⟩
  obtain ⟨S, s1, s2, s3⟩ := I.own
  refine ⟨F', e1, ⟨I.len, fun b o q => ?_, I.fr, fun b o q => ?_, fun i d q => ?_, fun i b => S i b ∧ ∃ t o, ρ[i]? = some (some (AV.own t o)), fun i t o q => ?_, fun i b sb => ?_, fun i j b si sj => s3 i j b si.1 sj.1⟩, fun q hq => ?_⟩
  · cases e : F b with
    | some u =>
      rw [e1 b u e] at q
      cases q
      exact I.fz b _ e
    | none =>
      rw [e2 b e] at q
      split at q
      · exact q
      · cases q
  · cases e : F b with
    | some u =>
      rw [e1 b u e] at q
      cases q
      exact I.nf b _ e
    | none =>
      rw [e2 b e] at q
      split at q
      · rename_i hb
        obtain ⟨xs, z⟩ := tupL b hb
        rw [z] at q
        cases q
        exact .inr (.inr ⟨xs, rfl⟩)
      · cases q
  · obtain ⟨v, q1, q2⟩ := I.dat i d q
    exact ⟨v, q1, dp_mono e1 _ _ q2⟩
  · obtain ⟨a, q1, q2, q3⟩ := s1 i t o q
    refine ⟨a, q1, ?_, q3⟩
    have e : (fun b => S i b ∧ ∃ t o, ρ[i]? = some (some (AV.own t o))) = S i := by funext b; simp [q]
    show Ho C.K F' H a (fun b => S i b ∧ ∃ t o, ρ[i]? = some (some (AV.own t o))) o
    rw [e]
    exact ho_mono e1 (fun _ _ => rfl) q2
  · obtain ⟨sb, t, o, eo⟩ := sb
    obtain ⟨n1, n2, n3⟩ := s2 i b sb
    obtain ⟨a, q1, q2, q3⟩ := s1 i t o eo
    refine ⟨?_, n2, n3⟩
    rw [e2 b n1]
    split
    · rename_i hb
      obtain ⟨xs, z⟩ := tupL b hb
      exact absurd z (ho_nt q2 sb xs)
    · rfl
  · cases e : F q.1 with
    | some u =>
      have z := I.fz q.1 u e
      rw [hL q hq] at z
      cases z
      exact e1 _ _ e
    | none =>
      rw [e2 _ e, if_pos (List.mem_map.mpr ⟨q, hq, rfl⟩)]
      exact hL q hq
end
/-! ### dicts -/
def ownD : Option (Option AV) → (Option Nat → List (List Int × List PyData) → Prop) → Prop
  | some (some (.own t (.dls kvs))), k => k t kvs
  | _, _ => False
theorem ownD_ok {o : Option (Option AV)} {k : Option Nat → List (List Int × List PyData) → Prop} (h : ownD o k) : ∃ t kvs, o = some (some (.own t (.dls kvs))) ∧ k t kvs := by
  unfold ownD at h
  split at h
  · exact ⟨_, _, rfl, h⟩
  · exact h.elim
theorem ownD_own {t : Option Nat} {kvs : List (List Int × List PyData)} {k : Option Nat → List (List Int × List PyData) → Prop} : ownD (some (some (.own t (.dls kvs)))) k = k t kvs := rfl
/-- d.setdefault(k, []).append(x) -/
def sdaK : List (List Int × List PyData) → List Int → PyData → List (List Int × List PyData)
  | [], k, d => [(k, [d])]
  | (k', ds) :: r, k, d => if k' = k then (k', ds ++ [d]) :: r else (k', ds) :: sdaK r k d
theorem inl_inj {a b : List Int} (h : a.map (Sum.inl : Int → Key) = b.map Sum.inl) : a = b := List.map_inj_right (fun x y e => Sum.inl.inj e) |>.mp h
theorem es_sda {K : PySem.W.Frag} {F : Hp} {v : V} {d : PyData} (hv : Dp K F v d) (k : List Int) : ∀ {es : List (List Int × Addr × List V)} {kvs : List (List Int × List PyData)}, Es K F es kvs →
    (∃ pre b vs post, es = pre ++ (k, b, vs) :: post ∧ valV (eKv es) (k.map Sum.inl) = some (.ref b) ∧ Es K F (pre ++ (k, b, vs ++ [v]) :: post) (sdaK kvs k d)) ∨ (valV (eKv es) (k.map Sum.inl) = none ∧ ∀ q, Es K F (es ++ [(k, q, [v])]) (sdaK kvs k d))
  | _, _, .nil => .inr ⟨rfl, fun q => .cons (.cons hv .nil) .nil⟩
  | _, _, .cons (k := k') (b := b) (vs := vs) (ds := ds) (es := es) (kvs := kvs) h t => by
    by_cases e : k' = k
    · subst e
      refine .inl ⟨[], b, vs, es, rfl, ?_, ?_⟩
      · show valV ((k'.map Sum.inl, V.ref b) :: eKv es) _ = _
        unfold valV
        rw [List.find?_cons_of_pos (by simp)]
        rfl
      · show Es K F _ (sdaK ((k', ds) :: kvs) k' d)
        unfold sdaK
        rw [if_pos rfl]
        exact .cons (dpa_snoc hv h) t
    · have e1 : valV (eKv ((k', b, vs) :: es)) (k.map Sum.inl) = valV (eKv es) (k.map Sum.inl) := by
        show valV ((k'.map Sum.inl, V.ref b) :: eKv es) _ = _
        unfold valV
        rw [List.find?_cons_of_neg]
        simp only [decide_eq_true_eq]
        exact fun z => e (inl_inj z)
      have e2 : sdaK ((k', ds) :: kvs) k d = (k', ds) :: sdaK kvs k d := by
        rw [sdaK, if_neg e]
      rw [e1, e2]
      rcases es_sda hv k t with ⟨pre, b2, vs2, post, g1, g2, g3⟩ | ⟨g1, g2⟩
      · exact .inl ⟨(k', b, vs) :: pre, b2, vs2, post, by rw [g1]; rfl, g2, .cons h g3⟩
      · exact .inr ⟨g1, fun q => .cons h (g2 q)⟩
theorem es_len {K : PySem.W.Frag} {F : Hp} : ∀ {es : List (List Int × Addr × List V)} {kvs : List (List Int × List PyData)}, Es K F es kvs → es.length = kvs.length
  | _, _, .nil => rfl
  | _, _, .cons _ t => by rw [List.length_cons, List.length_cons, es_len t]
theorem es_keys {K : PySem.W.Frag} {F : Hp} : ∀ {es : List (List Int × Addr × List V)} {kvs : List (List Int × List PyData)}, Es K F es kvs → es.map (·.1) = kvs.map (·.1)
  | _, _, .nil => rfl
  | _, _, .cons _ t => by rw [List.map_cons, List.map_cons, es_keys t]
theorem es_mem {K : PySem.W.Frag} {F : Hp} {k : List Int} {b : Addr} {vs : List V} : ∀ {es : List (List Int × Addr × List V)} {kvs : List (List Int × List PyData)}, Es K F es kvs → (k, b, vs) ∈ es → ∃ ds, (k, ds) ∈ kvs ∧ vs.length = ds.length ∧ DpAll K F vs ds
  | _, _, .nil, h => nomatch h
  | _, _, .cons h t, hm => by
    rcases List.mem_cons.mp hm with e | hm
    · cases e
      exact ⟨_, List.mem_cons_self, dpa_len h, h⟩
    · obtain ⟨ds, g1, g2⟩ := es_mem t hm
      exact ⟨ds, List.mem_cons_of_mem _ g1, g2⟩
/-- what a key has -/
def dAt (kvs : List (List Int × List PyData)) (k : List Int) : Option (List PyData) := (kvs.find? fun e => decide (e.1 = k)).map (·.2)
theorem es_at {K : PySem.W.Frag} {F : Hp} {k : List Int} {ds : List PyData} : ∀ {es : List (List Int × Addr × List V)} {kvs : List (List Int × List PyData)}, Es K F es kvs → dAt kvs k = some ds → ∃ b vs, (k, b, vs) ∈ es ∧ valV (eKv es) (k.map Sum.inl) = some (.ref b) ∧ DpAll K F vs ds
  | _, _, .nil, h => nomatch h
  | _, _, .cons (k := k') (b := b) (vs := vs) (ds := ds') (es := es) (kvs := kvs) h t, hm => by
    unfold dAt at hm
    by_cases e : k' = k
    · subst e
      rw [List.find?_cons_of_pos (by simp)] at hm
      cases hm
      refine ⟨b, vs, List.mem_cons_self, ?_, h⟩
      show valV ((k'.map Sum.inl, V.ref b) :: eKv es) _ = _
      unfold valV
      rw [List.find?_cons_of_pos (by simp)]
      rfl
    · rw [List.find?_cons_of_neg (by simpa using e)] at hm
      obtain ⟨b2, vs2, g1, g2, g3⟩ := es_at t hm
      refine ⟨b2, vs2, List.mem_cons_of_mem _ g1, ?_, g3⟩
      rw [← g2]
      show valV ((k'.map Sum.inl, V.ref b) :: eKv es) _ = _
      unfold valV
      rw [List.find?_cons_of_neg]
      simp only [decide_eq_true_eq]
      exact fun z => e (inl_inj z)
end Ab

set_option maxHeartbeats 4000000
/-! Ab18: the rules for dicts of lists. -/
namespace Ab
open PySem PySem.Spec PyProof.Rows L2
open PySem.W (dataLe)
def tDSetdT (td ty tx : TE) : TE := fun σ H Q => td σ H fun x H1 => ∃ a, x = .ref a ∧ IsD H1 a ∧ ty σ H1 fun y H2 => tx σ H2 fun z H3 => ∃ (kvs : List (List Key × V)) (k : List Key) (b : Addr), H3 a = some (.dT kvs) ∧ y = .ref b ∧ H3 b = some (.tup (k.map kV)) ∧ kvs.length < sizeLine ∧
  (∀ v, valV kvs k = some v → Q v H3) ∧ (valV kvs k = none → Q z (upd H3 a (.dT (putK kvs k z))))
section
variable {X : Cx} {o e f : Expr} {td ty tx : TE} {apos cpos pos : Pos}
theorem pe_dsetdT (hu : X.A.units + 1 < cLine) (ho : PE X o td) (he : PE X e ty) (hf : PE X f tx) (m : M2 X o "setdefault" apos e f cpos) : PE X (.Call (.Attribute o "setdefault" apos) [e, f] [] cpos) (tDSetdT td ty tx) := by
  refine ⟨fun pins s σ H Q I h => ?_⟩
  refine wpAny_Call_method m.base m.few m.line PySem.F.plainAttrs_dict PySem.F.slot_dict_setdefault PySem.F.type_dict_setdefault (thn (ho.run pins s σ H _ I h) fun u s1 ⟨x, H1, I1, rx, a, ex, d, q1⟩ => ?_)
  subst ex
  obtain rfl : u = Value.ref a := rx
  obtain ⟨t1, t2, _⟩ := isD_at I1 d
  refine ⟨t1, t2, ?_⟩
  rw [m.trees]
  refine Calls.callWith_builtin rfl (Calls.evalArgs_plain (Calls.spliced_cons (thn (he.run pins s1 σ H1 _ I1 q1) fun iv s2 ⟨y, H2, I2, ry, q2⟩ =>
    Calls.spliced_cons (thn (hf.run pins s2 σ H2 _ I2 q2) fun fv s3 ⟨z, H3, I3, rz, kvs, k, b, ea, ey, eb, hl, q3, q4⟩ => Calls.spliced_nil ?_))))
  subst ey
  obtain rfl : iv = Value.ref b := ry
  obtain ⟨zl, hd, xs, rel, dd⟩ := dt_of I3.hok ea
  have hz : xs.length ≤ sizeLine := by rw [← Paired.length rel]; exact zl
  have hl2 : (putK kvs k z).length ≤ sizeLine := by have := length_putK kvs k z; omega
  refine call_setdefault_heap (hsz := hz) (tupleKind_room_in1 hu) (key_of I3.hok eb) hd dd (fun p hp => ?_) fun hn h' dd' hs => ?_
  · have r := rel.val k
    rw [hp] at r
    cases ev : valV kvs k with
    | none =>
      rw [ev] at r
      exact (show False from r).elim
    | some v0 =>
      rw [ev] at r
      exact ⟨v0, _, I3.tok _, r, q3 v0 ev⟩
  · have r := rel.val k
    rw [hn] at r
    cases ev : valV kvs k with
    | some v0 =>
      rw [ev] at r
      exact (show False from r).elim
    | none =>
      obtain ⟨q, es, ep, hq, h2, h3, h4, _, h5⟩ := dd'
      refine ⟨z, upd H3 a (.dT (putK kvs k z)), d_write (ob := .dT (putK kvs k z)) I3 (by rw [ea]; exact True.intro) hs ⟨q, hq⟩ ⟨hl2, hd, _, (rel.put k eb rz).keeps fun c ys ec => ?_, q, es, ep, hq, h2, h3, h4, h5⟩, rz, q4 ev⟩
      rw [upd_ne (ne_of ec ea (fun z => nomatch z))]
      exact ec
def tDGetT (K : PySem.W.Frag) (td ty : TE) : TE := fun σ H Q => td σ H fun x H1 => ty σ H1 fun y H2 => ∃ (a : Addr) (kvs : List (List Key × V)) (k : List Int) (b : Addr) (v : V), x = .ref a ∧ H2 a = some (.dT kvs) ∧ y = .ref b ∧ SqT K H2 b (k.map V.int) ∧ valV kvs (k.map Sum.inl) = some v ∧ Q v H2
theorem key_sq {pins : List (Addr × Obj)} {σ : L2.St} {H : Hp} {s : Shared} {b : Addr} {k : List Int} (I : Inv X pins σ H s) (h : SqT X.K H b (k.map V.int)) : (tupleKind (mixKind X.prog X.w)).is s.heap (k.map Sum.inl) b := by
  obtain ⟨its, r, pl, hz⟩ := I.tuple h
  obtain ⟨o, h1, h2, n, h3⟩ := pl
  have r' : Vals ((k.map (Sum.inl : Int → Key)).map kV) its := by
    rw [List.map_map]
    exact r
  exact ⟨o, its.toArray, n, h1, h2, h3, by simpa using items_are r'⟩
theorem pe_dgetT (hu : X.A.units + 1 < cLine) (ho : PE X o td) (hi : PE X e ty) (hs : NoSl e) : PE X (.Subscript o e pos) (tDGetT X.K td ty) := by
  refine ⟨fun pins s σ H Q I h => ?_⟩
  refine subD_of PySem.F.slot_dict_getitem.lookup hs (thn (ho.run pins s σ H _ I h) fun u s1 ⟨x, H1, I1, rx, q1⟩ => thn (hi.run pins s1 σ H1 _ I1 q1) fun iv s2 ⟨y, H2, I2, ry, a, kvs, k, b, v, ex, ea, ey, eb, ev, q2⟩ => ?_)
  subst ex ey
  obtain rfl : u = Value.ref a := rx
  obtain rfl : iv = Value.ref b := ry
  obtain ⟨z, hd, xs, rel, dd⟩ := dt_of I2.hok ea
  obtain ⟨w', hw, rw'⟩ := RelO.some_of (v := v) (o := (atKey xs (k.map Sum.inl)).map (·.2)) (by rw [← ev]; exact rel.val _)
  obtain ⟨p, hp, hp2⟩ := Option.map_eq_some_iff.mp hw
  refine ⟨dd.typeIs, wpAny_getItem_heap (tupleKind_room_in1 hu) (key_sq I2 eb) dd hp ?_⟩
  rw [hp2]
  exact ⟨v, H2, I2.tok _, rw', q2⟩
end
/-! ### the readings -/
section
variable {X : Cx} {o e ix : Expr} {p pos spos : Pos} {i j : Nat} {Te Ti : ATE}
def aDnew : ATE := fun ρ K => K (.own none (.dls [])) ρ
theorem e_dnew : AE X (.Dict [] [] pos) aDnew := pe_of pe_dnewT fun σ H Q ⟨C, F, ρ, Kc, hK, I, h, q⟩ => fun p hp =>
  q F (.ref p) (.own none (.dls [])) ρ _ (Same.refl F) (I.newO hp ⟨[], fun b => by simp, by simp, upd_same, (fun _ z => nomatch z), .nil⟩) h
def aSortD (i : Nat) : ATE := fun ρ K => ownD ρ[i]? fun _ kvs => kvs.length < 64 ∧ ((∀ e ∈ kvs, e.1 ≠ []) ∨ kvs.length ≤ 1) ∧ ∀ ks1 : List (List Int), ks1.Perm (kvs.map (·.1)) → ks1.Pairwise (fun q r => dataLe false tI q r = true) → K (.own none (.lst (ks1.map tI))) ρ
theorem dpa_refs {K : PySem.W.Frag} {F : Hp} : ∀ {L : List (Addr × List Int)}, (∀ q ∈ L, F q.1 = some (.tup (q.2.map V.int))) → DpAll K F (L.map fun q => V.ref q.1) ((L.map (·.2)).map tI)
  | [], _ => .nil
  | q :: L, h => .cons (dp_tup (h q List.mem_cons_self) (dpa_ints q.2)) (dpa_refs fun r hr => h r (List.mem_cons_of_mem _ hr))
theorem e_sortDT (hu : X.A.units + 64 < cLine) (hm : X.mg "sorted" = none) (ho : PE X o (tVar i)) (hg : Gl X "sorted" := by rfl) (hc : X.calm = true := by rfl) (hst : starEach [o] X.env = (false, eval o X.env) :: starEach [] X.env := by rfl) :
    AE X (.Call (.Name "sorted" p) [o] [] pos) (aSortD i) := pe_of (pe_callB (cr_sortD2 hc hu) hg hm boot_sorted (pa_cons ho pa_nil hst) (by decide) (by decide) hst rfl) fun σ H Q ⟨C, F, ρ, Kc, hK, I, h, q⟩ => by
  obtain ⟨t, kvs, hi, h1, h2, h3⟩ := ownD_ok h
  obtain ⟨S, s1, s2, s3⟩ := I.own
  obtain ⟨a, e1, ⟨es, f1, f2, f3, f4, f5⟩, _⟩ := s1 i t _ hi
  have hl := es_len f5
  have hk := es_keys f5
  refine ⟨.ref a, e1, a, es.map fun e => (e.1, V.ref e.2.1), rfl, ?_, by rw [List.length_map]; omega, ?_, fun L1 p pm hL pw hp => ?_⟩
  · rw [List.map_map]
    exact f3
  · rcases h2 with h2 | h2
    · refine .inl fun q hq => ?_
      obtain ⟨x, hx, rfl⟩ := List.mem_map.mp hq
      have : x.1 ∈ kvs.map (·.1) := by rw [← hk]; exact List.mem_map.mpr ⟨x, hx, rfl⟩
      obtain ⟨y, hy, ey⟩ := List.mem_map.mp this
      have := h2 y hy
      rw [ey] at this
      exact this
    · exact .inr (by rw [List.length_map]; omega)
  · have ek : (es.map fun e => (e.1, V.ref e.2.1)).map (·.1) = kvs.map (·.1) := by
      rw [List.map_map, ← hk]
      rfl
    rw [ek] at pm
    obtain ⟨F', sF, I', hF⟩ := I.frzT (L1.map fun q => (q.1, q.2.map V.int)) (fun q hq => by
      obtain ⟨x, hx, rfl⟩ := List.mem_map.mp hq
      exact hL x hx)
    have d := dpa_refs (K := C.K) (F := F') (L := L1) fun q hq => hF (q.1, q.2.map V.int) (List.mem_map.mpr ⟨q, hq, rfl⟩)
    refine q F' (.ref p) (.own none (.lst _)) ρ _ sF (I'.newOwn hp d) (h3 _ pm ?_)
    rw [List.pairwise_map]
    exact pw
/-- tuple(d[k]) -/
def aTupD (i : Nat) (Ti : ATE) : ATE := fun ρ K => ownD ρ[i]? fun _ _ => Ti ρ fun x ρ1 => dd x fun dk => ∃ k, dk = tI k ∧ ownD ρ1[i]? fun _ kvs => ∃ ds, dAt kvs k = some ds ∧ K (.dat (.tuple ds)) ρ1
theorem e_tupD (hu : X.A.units + 64 < cLine) (hm : X.mg "tuple" = none) (ho : PE X o (tVar i)) (hi : AE X ix Ti) (hs : NoSl ix := by exact fun _ _ => rfl) (hg : Gl X "tuple" := by rfl) (hst : starEach [.Subscript o ix spos] X.env = (false, eval (.Subscript o ix spos) X.env) :: starEach [] X.env := by rfl) :
    AE X (.Call (.Name "tuple" p) [.Subscript o ix spos] [] pos) (aTupD i Ti) := pe_of (pe_callTy call_tuple_of hg hm boot_tuple (pa_cons (pe_dgetT (by omega) ho hi hs) pa_nil hst) (by decide) (by decide) hst rfl) fun σ H Q ⟨C, F, ρ, Kc, hK, I, h, q⟩ => by
  obtain ⟨t, kvs, hi, h⟩ := ownD_ok h
  obtain ⟨S, s1, s2, s3⟩ := I.own
  obtain ⟨a, e1, ⟨es0, j1, j2, j3, j4, j5⟩, _⟩ := s1 i t _ hi
  refine ⟨.ref a, e1, C, F, ρ, _, hK, I, h, fun F1 v x ρ1 H1 sF r1 k1 => ?_⟩
  obtain ⟨F2, dk, s2', I2, hd, k, ek, k2⟩ := r1.data k1
  subst ek
  obtain ⟨t, kvs, hi, ds, hat, k3⟩ := ownD_ok k2
  obtain ⟨S, s1, s2, s3⟩ := I2.own
  obtain ⟨a', e1', ⟨es, f1, f2, f3, f4, f5⟩, _⟩ := s1 i t _ hi
  have : a' = a := by rw [e1] at e1'; simpa using e1'.symm
  subst this
  obtain ⟨b, vs, g1, g2, g3⟩ := es_at f5 hat
  cases hd with
  | tup hs ha =>
    obtain ⟨ev, _⟩ := intsD_ok (intsD_map' k) ha
    subst ev
    rw [hK] at hs
    refine ⟨a', eKv es, k, _, .ref b, rfl, f3, rfl, same_t I2.fz hs, g2, b, vs, rfl, .inl ⟨.inl (.inl (f4 _ g1)), fun l hl => ?_⟩⟩
    exact q _ (.ref l) (.dat (.tuple ds)) ρ1 _ ((sF.trans s2').trans (same_upd' (I2.fnone hl))) ⟨I2.imm hl, dp_tup upd_same (dpa_mono (same_upd' (I2.fnone hl)) _ _ g3)⟩ k3
def datAt : Option (Option AV) → (PyData → Prop) → Prop
  | some (some (.dat d)), k => k d
  | _, _ => False
theorem datAt_dat {d : PyData} {k : PyData → Prop} : datAt (some (some (.dat d))) k = k d := rfl
theorem datAt_ok {o : Option (Option AV)} {k : PyData → Prop} (h : datAt o k) : ∃ d, o = some (some (.dat d)) ∧ k d := by
  unfold datAt at h
  split at h
  · exact ⟨_, rfl, h⟩
  · exact h.elim
abbrev rTupOf (K : PySem.W.Frag) : List V → Hp → VK → Prop := fun xs H Q => ∃ p ys, xs = [.ref p] ∧ ((SqL K H p ys ∧ ∀ l, H l = none → Q (.ref l) (upd H l (.tup ys))) ∨ (SqT K H p ys ∧ Q (.ref p) H))
/-- d.setdefault(tuple(e), []).append(x), x the slot j -/
def aSda (i j : Nat) (Te : ATE) : ATS := fun A ρ => ownD ρ[i]? fun _ _ => Te ρ fun x ρ1 => arg x fun y => cont ρ1 y fun b ds => b = true ∧ ∃ k : List Int, ds = k.map .int ∧ ownD ρ1[i]? fun t kvs => (kvs.length < sizeLine ∧ ∀ e ∈ kvs, e.2.length < sizeLine) ∧ datAt ρ1[j]? fun d => A.nx (ρ1.set i (some (.own t (.dls (sdaK kvs k d)))))
theorem s_sda {call : Expr} (h : PE X call (tBM X.K "list" rAppend (tDSetdT (tVar i) (tCB (rTupOf X.K) (tCons (cE X.K Te) tNil)) (tLst tNil)) (tCons (tVar j) tNil))) (hs : swapsWith call none pos.line X.env = pure false := by rfl) : AStm X (.Expr call pos) (aSda i j Te) := ps_of (ps_expr h hs) fun D σ H ⟨C, F, ρ, A, hK, I, h, q1, q2, q3, q4⟩ => by
  obtain ⟨t, kvs, hi, h⟩ := ownD_ok h
  obtain ⟨S, s1, s2, s3⟩ := I.own
  obtain ⟨a, e1, ⟨es0, j1, j2, j3, j4, j5⟩, _⟩ := s1 i t _ hi
  refine ⟨.ref a, e1, a, rfl, .inr ⟨_, .inl j3⟩, C, F, ρ, _, hK, I, h, fun F1 v0 x ρ1 H1 sF r1 k1 => ?_⟩
  obtain ⟨F2, y, s2', I2, hy, k2⟩ := r1.arg k1
  obtain ⟨p, vs, b, ds, rfl, g3, _, g4, hb, k, hds, k3⟩ := hy.cont I2 k2
  subst hb hds
  obtain ⟨ev, _⟩ := intsD_ok (intsD_map' k) g4
  subst ev
  rw [hK] at g3
  refine ⟨p, _, rfl, .inl ⟨g3, fun l hl => ⟨Nat.zero_le _, fun r hr => ?_⟩⟩⟩
  have I3 := I2.imm (o := .tup (k.map V.int)) hl
  have sU : Same F2 (upd F2 l (.tup (k.map V.int))) := same_upd' (I2.fnone hl)
  obtain ⟨t, kvs, hi, ⟨hz, hz2⟩, k4⟩ := ownD_ok k3
  obtain ⟨d, hj, k5⟩ := datAt_ok k4
  obtain ⟨v, ev, hv⟩ := I3.dat j d hj
  obtain ⟨S, w⟩ := I3.own
  have w0 := w
  obtain ⟨s1, s2, s3⟩ := w
  obtain ⟨a', e1', ⟨es, f1, f2, f3, f4, f5⟩, _⟩ := s1 i t _ hi
  have : a' = a := by rw [e1] at e1'; simpa using e1'.symm
  subst this
  have hlen := es_len f5
  have hlr : l ≠ r := fun z => by
    subst z
    rw [upd_same] at hr
    cases hr
  have har : a' ≠ r := fun z => by
    subst z
    rw [hr] at f3
    cases f3
  have eo : ∀ e ∈ es, e.2.1 ≠ r := fun e he z => by
    have := f4 e he
    rw [z, hr] at this
    cases this
  refine ⟨eKv es, k.map Sum.inl, l, by rw [upd_ne har]; exact f3, rfl, ?_, by rw [List.length_map]; omega, fun v' hv' => ?_, fun hn => ?_⟩
  · rw [upd_ne hlr, upd_same, List.map_map]
    rfl
  · rcases es_sda hv k f5 with ⟨pre, b, ws, post, g1, g2, g3'⟩ | ⟨g1, g2⟩
    · rw [g2] at hv'
      cases hv'
      have hbm : (k, b, ws) ∈ es := by rw [g1]; simp
      have hHb : upd (upd H1 l (.tup (k.map V.int))) r (.lst []) b = some (.lst ws) := by
        rw [upd_ne (eo _ hbm)]
        exact f4 _ hbm
      obtain ⟨ds, m1, m2, m3⟩ := es_mem f5 hbm
      have m4 := hz2 _ m1
      refine ⟨.inl ⟨rfl, ws, .inl (.inl hHb)⟩, v, ev, b, ws, v, rfl, rfl, hHb, by rw [m2]; exact m4, ?_⟩
      have ad : eAd (pre ++ (k, b, ws ++ [v]) :: post) = eAd es := by rw [g1]; simp [eAd]
      have kv : eKv (pre ++ (k, b, ws ++ [v]) :: post) = eKv es := by rw [g1]; simp [eKv]
      have nd := f2
      rw [g1] at nd
      simp only [eAd, List.map_append, List.map_cons, List.nodup_cons, List.nodup_append, List.mem_append, List.mem_cons] at nd
      have hab : a' ≠ b := fun z => nd.1 (.inr (.inl z))
      refine q1 _ _ _ _ ((sF.trans s2').trans sU) (I3.mutG (o' := .dls (sdaK kvs k d)) (S' := S i) w0 hi e1' ⟨pre ++ (k, b, ws ++ [v]) :: post, fun x => by rw [ad]; exact f1 x, by rw [ad]; exact f2, by rw [kv, upd_ne hab, upd_ne har]; exact f3, fun e he => ?_, g3'⟩ (fun x sx => .inl sx) (fun x sx nx => ?_) fun x sx => ?_) k5
      · rcases List.mem_append.mp he with he | he
        · have hm : e ∈ es := by rw [g1]; exact List.mem_append_left _ he
          rw [upd_ne (fun z => ?_), upd_ne (eo e hm)]
          · exact f4 e hm
          · exact nd.2.2.2 e.2.1 (List.mem_map.mpr ⟨e, he, rfl⟩) b (.inl rfl) z
        · rcases List.mem_cons.mp he with rfl | he
          · exact upd_same
          · have hm : e ∈ es := by rw [g1]; exact List.mem_append_right _ (List.mem_cons_of_mem _ he)
            rw [upd_ne (fun z => ?_), upd_ne (eo e hm)]
            · exact f4 e hm
            · exact nd.2.2.1.1 (by rw [← z]; exact List.mem_map.mpr ⟨e, he, rfl⟩)
      · have hxb : x ≠ b := fun z => sx ((f1 x).mpr (.inr (by rw [z]; exact List.mem_map.mpr ⟨_, hbm, rfl⟩)))
        have hxr : x ≠ r := fun z => nx (by rw [z]; exact hr)
        rw [upd_ne hxb, upd_ne hxr]
      · by_cases hxb : x = b
        · subst hxb
          rw [upd_same]
          simp
        · rw [upd_ne hxb]
          have n3 := (s2 i x sx).2.2
          have hxr : x ≠ r := fun z => n3 (by rw [z]; exact hr)
          rw [upd_ne hxr]
          exact n3
    · rw [g1] at hv'
      cases hv'
  · rcases es_sda hv k f5 with ⟨pre, b, ws, post, g1, g2, g3'⟩ | ⟨g1, g2⟩
    · rw [g2] at hn
      cases hn
    · have hra : r ≠ a' := fun z => har z.symm
      have hHr : upd (upd (upd H1 l (.tup (k.map V.int))) r (.lst [])) a' (.dT (putK (eKv es) (k.map Sum.inl) (.ref r))) r = some (.lst []) := by rw [upd_ne hra, upd_same]
      refine ⟨.inl ⟨rfl, [], .inl (.inl hHr)⟩, v, ev, r, [], v, rfl, rfl, hHr, by show 0 < sizeLine; decide, ?_⟩
      have pk : putK (eKv es) (k.map Sum.inl) (.ref r) = eKv (es ++ [(k, r, [v])]) := by
        have any : ((eKv es).any fun kv => decide (kv.1 = k.map Sum.inl)) = false := by
          rw [valV_any, g1]
          rfl
        unfold putK
        rw [any, if_neg (by simp)]
        simp [eKv]
      have ad : eAd (es ++ [(k, r, [v])]) = eAd es ++ [r] := by simp [eAd]
      have nr : r ∉ a' :: eAd es := fun z => by
        rcases List.mem_cons.mp z with z | z
        · exact hra z
        · obtain ⟨e, he, ez⟩ := List.mem_map.mp z
          exact eo e he ez
      refine q1 _ _ _ _ ((sF.trans s2').trans sU) (I3.mutG (o' := .dls (sdaK kvs k d)) (S' := fun x => S i x ∨ x = r) w0 hi e1' ⟨es ++ [(k, r, [v])], fun x => ?_, ?_, ?_, fun e he => ?_, g2 r⟩ (fun x sx => sx.elim .inl fun z => .inr (by rw [z]; exact hr)) (fun x sx nx => ?_) fun x sx => ?_) k5
      · rw [ad, List.mem_append, List.mem_singleton]
        show S i x ∨ x = r ↔ _
        rw [f1 x]
        exact or_assoc
      · rw [ad, ← List.cons_append, List.nodup_append]
        exact ⟨f2, by simp, fun x hx y hy z => nr (by rw [List.mem_singleton.mp hy] at z; rw [← z]; exact hx)⟩
      · rw [upd_ne har, upd_same, pk]
      · rcases List.mem_append.mp he with he | he
        · have hea : e.2.1 ≠ a' := fun z => by
            have := f4 e he
            rw [z, f3] at this
            cases this
          rw [upd_ne (eo e he), upd_ne hea, upd_ne (eo e he)]
          exact f4 e he
        · rw [List.mem_singleton.mp he]
          exact upd_same
      · have hxr : x ≠ r := fun z => sx (.inr z)
        have hxa : x ≠ a' := fun z => sx (.inl ((f1 x).mpr (.inl z)))
        rw [upd_ne hxr, upd_ne hxa, upd_ne hxr]
      · by_cases hxr : x = r
        · subst hxr
          rw [upd_same]
          simp
        · rw [upd_ne hxr]
          by_cases hxa : x = a'
          · subst hxa
            rw [upd_same]
            simp
          · rw [upd_ne hxa, upd_ne hxr]
            exact (s2 i x (sx.resolve_right hxr)).2.2
end
end Ab

set_option maxHeartbeats 4000000
/-! Ab19: all(xs) by data, sorted(set(t)) for a tuple of ints. -/
namespace Ab
open PySem PySem.Spec PyProof.Rows L2
section
variable {X : Cx}
def rAllD (K : PySem.W.Frag) : List V → Hp → VK → Prop := fun vs H Q => ∃ (a : Addr) (xs : List V) (ds : List PyData), vs = [V.ref a] ∧ SqL K H a xs ∧ DpAll K H xs ds ∧ (∀ d ∈ ds, d.fits63) ∧ Q (.bl (ds.all PyData.truthy)) H
theorem cr_allD (hc : X.calm = true) : CallR X (.builtin "all") (rAllD X.K) := by
  intro pins s σ H vs us Q I r h
  obtain ⟨a, xs, ds, rfl, hs, hd, hf, q⟩ := h
  rw [Vals.ref1 r]
  obtain ⟨its, as, rv, hr, hl⟩ := seq_reads (b := true) (F := H) I hs (Same.refl H) hd
  rw [if_pos rfl] at hl
  exact PySem.W.all_list_data (I.ok.hd hc) hl (by simpa using hr) (dpa_plain _ _ hd) hf fun h' tk hk => ⟨.bl _, H, I.kept hk, rfl, q⟩
def sAllD : SC := fun b ds k => b = true ∧ (∀ d ∈ ds, d.fits63) ∧ k (.dat (.bool (ds.all PyData.truthy)))
theorem dc_allD {K : PySem.W.Frag} : DC K (rAllD K) sAllD := fun C F ρ σ H a vs b ds Q Kd hK I hs hs' ha ⟨hb, hf, hk⟩ q => by
  subst hb
  subst hK
  exact ⟨a, vs, ds, rfl, hs, dpa_mono I.fz _ _ ha, hf, q F _ (.dat _) H (Same.refl F) ⟨I, .bl _⟩ hk⟩
def rSetI (K : PySem.W.Frag) (w : World) : List V → Hp → VK → Prop := fun vs H Q => ∃ (l : Addr) (ns : List Int), vs = [V.ref l] ∧ SqT K H l (ns.map V.int) ∧ ns.length < 64 ∧ ∀ a c, H a = none → c ≤ ns.length → Q (.ref a) (upd H a (SetO w a (fun j => decide (j ∈ ns)) c))
theorem cr_setI (hc : X.calm = true) : CallR X (.type "set") (rSetI X.K X.w) := by
  intro pins s σ H vs us Q I r h
  obtain ⟨l, ns, rfl, hl, hf, q⟩ := h
  rw [Vals.ref1 r]
  obtain ⟨its, rv, pl, hz⟩ := I.tuple hl
  have pl : s.heap.IsTuple l its.toArray := pl
  have hn : H s.heap.objs.size = none := I.hok.fresh (Nat.le_refl _)
  refine call_set_tupI (P := X.prog) (w := X.w) ns (I.ok.hd hc) pl (by simpa using ints_of_vals rv) (by unfold scanBound; omega) fun h' tk c R hcl k => ?_
  exact ⟨.ref s.heap.objs.size, upd H s.heap.objs.size (SetO X.w s.heap.objs.size (fun j => decide (j ∈ ns)) c), I.laid (t' := tk) k (Nat.le_refl _) (setO_new R), rfl, q _ c hn hcl⟩
/-- sorted(set(t)), t a tuple of ints -/
def aSortSetI (Te : ATE) : ATE := fun ρ K => Te ρ fun x ρ1 => arg x fun y => cont ρ1 y fun b ds => b = false ∧ ∃ ns : List Int, ds = ns.map .int ∧ ns.length < 64 ∧
  ∀ ns1 : List Int, ns1.Pairwise (· < ·) → (∀ k, k ∈ ns1 ↔ k ∈ ns) → K (.own none (.lst (ns1.map .int))) ρ1
theorem e_sortSetI {e : Expr} {Te : ATE} {p p2 pos pos2 : Pos} (hm : X.mg "sorted" = none) (hm2 : X.mg "set" = none) (he : AE X e Te) (hg : Gl X "sorted" := by rfl) (hg2 : Gl X "set" := by rfl) (hc : X.calm = true := by rfl)
    (na : starEach [e] X.env = (false, eval e X.env) :: starEach [] X.env := by rfl)
    (nb : starEach [.Call (.Name "set" p2) [e] [] pos2] X.env = (false, eval (.Call (.Name "set" p2) [e] [] pos2) X.env) :: starEach [] X.env := by rfl) :
    AE X (.Call (.Name "sorted" p) [.Call (.Name "set" p2) [e] [] pos2] [] pos) (aSortSetI Te) :=
  pe_of (pe_callB (cr_sortedSet hc) hg hm boot_sorted (pa_cons (pe_callTy (cr_setI hc) hg2 hm2 boot_set (pa_cons he pa_nil na) (by decide) (by decide) na rfl) pa_nil nb) (by decide) (by decide) nb rfl) fun σ H Q ⟨C, F, ρ, Kc, hK, I, h, q⟩ => by
    refine ⟨C, F, ρ, _, hK, I, h, fun F1 v x ρ1 H1 s1 r1 k1 => ?_⟩
    obtain ⟨F2, y, s2, I2, hy, k2⟩ := r1.arg k1
    obtain ⟨a, vs, b, ds, rfl, h3, _, h4, rfl, ns, rfl, hf, k3⟩ := hy.cont I2 k2
    obtain ⟨ev, _⟩ := intsD_ok (intsD_map' ns) h4
    subst ev
    rw [hK] at h3
    refine ⟨a, ns, rfl, h3, hf, fun c n hn hcl => ?_⟩
    have g : Same H1 (upd H1 c (SetO X.w c (fun j => decide (j ∈ ns)) n)) := same_upd' hn
    have I3 := I2.grow g
    refine ⟨c, _, n, rfl, upd_same, by omega, fun ns1 p pw hm hl hp => ?_⟩
    exact q F2 _ (.own none (.lst _)) ρ1 _ (s1.trans s2) (I3.newOwn hp (dpa_ints ns1)) (k3 _ pw fun k => by rw [hm k]; simp)
end
end Ab

set_option maxHeartbeats 4000000
/-! Ab20: the statement d.setdefault(tuple(e), []).append(x); equations for simp. -/
namespace Ab
open PySem PySem.Spec PyProof.Rows L2
section
variable {X : Cx} {o e f : Expr} {i j : Nat} {Te : ATE} {apos cpos apos2 cpos2 lpos p pos pos2 : Pos}
theorem s_sdaC (hu : X.A.units + 64 < cLine) (hm : X.mg "tuple" = none) (ho : PE X o (tVar i)) (he : AE X e Te) (hf : PE X f (tVar j)) (hg : Gl X "tuple" := by rfl)
    (m : M2 X o "setdefault" apos (.Call (.Name "tuple" p) [e] [] pos2) (.List [] lpos) cpos := by exact ⟨rfl, rfl, rfl, rfl⟩) (hst : starEach [e] X.env = (false, eval e X.env) :: starEach [] X.env := by rfl)
    (hbase : attributeBase (.Call (.Attribute o "setdefault" apos) [.Call (.Name "tuple" p) [e] [] pos2, .List [] lpos] [] cpos) "append" X.env (eval (.Call (.Attribute o "setdefault" apos) [.Call (.Name "tuple" p) [e] [] pos2, .List [] lpos] [] cpos) X.env) = eval (.Call (.Attribute o "setdefault" apos) [.Call (.Name "tuple" p) [e] [] pos2, .List [] lpos] [] cpos) X.env := by rfl)
    (hfew : ((backTo cpos2 (starEach (f :: []) X.env)).all (fun x => !x.1) && (backToKw cpos2 (keywordEach [] X.env)).all (fun x => x.1.isSome)
      && decide ((f :: ([] : List Expr)).length + ([] : List Keyword).length + (if ([] : List Keyword).isEmpty then 0 else 1) < 30)) = true := by rfl)
    (hline : (apos2.endLine == cpos2.line) = true := by rfl) (hst2 : starEach (f :: []) X.env = (false, eval f X.env) :: starEach [] X.env := by rfl)
    (hs : swapsWith (.Call (.Attribute (.Call (.Attribute o "setdefault" apos) [.Call (.Name "tuple" p) [e] [] pos2, .List [] lpos] [] cpos) "append" apos2) [f] [] cpos2) none pos.line X.env = pure false := by rfl) :
    AStm X (.Expr (.Call (.Attribute (.Call (.Attribute o "setdefault" apos) [.Call (.Name "tuple" p) [e] [] pos2, .List [] lpos] [] cpos) "append" apos2) [f] [] cpos2) pos) (aSda i j Te) :=
  s_sda (pe_bm PySem.F.plainAttrs_list PySem.F.slot_list_append PySem.F.type_list_append mt_append (pe_dsetdT (by omega) ho (pe_callTy call_tuple_of hg hm boot_tuple (pa_cons he pa_nil hst) (by decide) (by decide) hst rfl) (pe_lst pa_nil) m) (pa_cons hf pa_nil hst2) hbase hfew hline hst2 rfl) hs
end
theorem enS_list {ds : List PyData} {k : IS → Prop} : enS (.dat (.list ds)) k = k ⟨enumD 0 ds, [], fun _ => True⟩ := rfl
theorem enS_tup {ds : List PyData} {k : IS → Prop} : enS (.dat (.tuple ds)) k = k ⟨enumD 0 ds, [], fun _ => True⟩ := rfl
/-- pairs of plain values -/
def enumL {α : Type} : Nat → List α → List (Nat × α)
  | _, [] => []
  | k, x :: xs => (k, x) :: enumL (k + 1) xs
theorem enumD_map {α : Type} (enc : α → PyData) : ∀ (xs : List α) (k : Nat), enumD k (xs.map enc) = (enumL k xs).map fun q => .tuple [.int (q.1 : Nat), enc q.2]
  | [], _ => rfl
  | x :: xs, k => by
    rw [List.map_cons, enumD, enumL, List.map_cons, enumD_map enc xs (k + 1)]
theorem enumL_len {α : Type} : ∀ (xs : List α) (k : Nat), (enumL k xs).length = xs.length
  | [], _ => rfl
  | _ :: xs, k => by rw [enumL, List.length_cons, List.length_cons, enumL_len xs]
theorem enumL_mem {α : Type} : ∀ {xs : List α} {k : Nat} {q : Nat × α}, q ∈ enumL k xs → k ≤ q.1 ∧ xs[q.1 - k]? = some q.2
  | x :: xs, k, q, h => by
    rcases List.mem_cons.mp h with rfl | h
    · exact ⟨Nat.le_refl _, by simp⟩
    · obtain ⟨h1, h2⟩ := enumL_mem h
      refine ⟨by omega, ?_⟩
      rw [show q.1 - k = (q.1 - (k + 1)) + 1 by omega, List.getElem?_cons_succ]
      exact h2
theorem isN_int {n : Int} {k : PyData → Prop} : sIsN (.int n) .none k = k (.bool false) := by unfold sIsN; simp
theorem notN_int {n : Int} {k : PyData → Prop} : sNotN (.int n) .none k = k (.bool true) := by unfold sNotN; simp
end Ab

set_option maxHeartbeats 4000000
namespace Ab
open PySem PySem.Spec PyProof.Rows L2
section
variable {X : Cx} {e : Expr} {Te : ATE} {pos : Pos}
def aNotT (T : ATE) : ATE := fun ρ K => T ρ fun x ρ' => arg x fun y => truS ρ' y fun b => K (.dat (.bool !b)) ρ'
theorem e_notT (ha : AE X e Te) : AE X (.UnaryOp .Not e pos) (aNotT Te) := pe_of (pe_notT ha) fun σ H Q ⟨C, F, ρ, Kc, hK, I, h, q⟩ => by
  refine ⟨C, F, ρ, _, hK, I, h, fun F1 v x ρ1 H1 s1 r1 k1 => ?_⟩
  obtain ⟨F2, y, s2, I2, hy, k2⟩ := r1.arg k1
  have out : ∀ b : Bool, Kc (.dat (.bool !b)) ρ1 → Q (.bl (!b)) H1 := fun b kb => q F2 _ (.dat (.bool !b)) ρ1 H1 (s1.trans s2) ⟨I2, .bl _⟩ kb
  have seqs : cont ρ1 y (fun _ ds => Kc (.dat (.bool !(!ds.isEmpty))) ρ1) → ∃ k, TruV X.K v H1 k ∧ Q (.bl (!k)) H1 := fun k2 => by
    obtain ⟨a, vs, b, ds, rfl, h3, _, h4, k3⟩ := hy.cont I2 k2
    rw [hK] at h3
    refine ⟨!ds.isEmpty, ?_, out _ k3⟩
    cases b with
    | true => exact .inl ⟨vs, h3, by rw [isEmpty_dp h4]⟩
    | false => exact .inr (.inl ⟨vs, h3, by rw [isEmpty_dp h4]⟩)
  cases y with
  | dat d =>
    have hy' : Dp C.K F2 v d := hy
    cases hy' with
    | non => exact ⟨false, rfl, out _ k2⟩
    | bl b => exact ⟨b, rfl, out _ k2⟩
    | int i => exact ⟨i != 0, rfl, out _ k2⟩
    | str x => exact seqs k2
    | lst hs ha => exact seqs k2
    | tup hs ha => exact seqs k2
  | own t o => exact seqs k2
  | ali i => exact seqs k2
end
end Ab

set_option maxHeartbeats 4000000
/-! M69a: what the defs of the mendings program compute, in plain lists. -/
namespace K69
open PySem Ab
open PySem.W (dataLe)
abbrev Row := List Int
abbrev eR (rows : List Row) : PyData := .tuple (rows.map tI)
abbrev sv (x : String) : PyData := .str (Str.ofString x)
def kf (key r : Row) : Row := key.map fun c => r.getD c.toNat 0
def leT : Row → Row → Bool := dataLe false tI
/-- the dict of the groups -/
def dK (rows : List Row) (key : Row) : List (List Int × List PyData) := rows.foldl (fun kvs r => sdaK kvs (kf key r) (tI r)) []
def gk (rows : List Row) (key : Row) : List Row := ((dK rows key).map (·.1)).mergeSort leT
def grp (rows : List Row) (key k : Row) : List Row := rows.filter fun r => decide (kf key r = k)
def groupsF (rows : List Row) (key : Row) : List (List Row) := (gk rows key).map (grp rows key)
def prodL (gs : List (List Row)) : Int := gs.foldl (fun n g => n * (g.length : Int)) 1
def countF (rows : List Row) (key : Row) : Int := prodL (groupsF rows key)
def mendR : List (List Row) → Int → List Row
  | [], _ => []
  | g :: gs, n => g.getD (n % (g.length : Int)).toNat [] :: mendR gs (n / (g.length : Int))
def mendF (gs : List (List Row)) (n : Int) : List Row := (mendR gs.reverse n).reverse
def isMend (gs : List (List Row)) (kept : List Row) : Bool := decide (kept.length = gs.length) && (List.range gs.length).all fun k => decide (kept.getD k [] ∈ gs.getD k [])
abbrev Ques := List (Option Int)
def oI : Option Int → PyData
  | none => .none
  | some n => .int n
abbrev eQ (q : Ques) : PyData := .tuple (q.map oI)
def fit1 (r : Row) (p : Nat × Option Int) : Bool := match p.2 with
  | none => true
  | some w => decide (r.getD p.1 0 = w)
def fitsF (q : Ques) (r : Row) : Bool := (enumL 0 q).all (fit1 r)
def left (q : Ques) (g : List Row) : List Row := g.filter fun r => !fitsF q r
def sureF (q : Ques) (gs : List (List Row)) (_ : Nat) : PyData := match (enumL 0 gs).find? fun p => (left q p.2).isEmpty with
  | some p => .tuple [sv "sure", .int (p.1 : Nat)]
  | none => .tuple [sv "not", eR (gs.map fun g => (left q g).getD 0 [])]
def col (c : Int) (r : Row) : Int := r.getD c.toNat 0
def minC (c : Int) (g : List Row) : Int := match g with
  | [] => 0
  | r :: g => (g.map (col c)).foldl min (col c r)
def maxC (c : Int) (g : List Row) : Int := match g with
  | [] => 0
  | r :: g => (g.map (col c)).foldl max (col c r)
def nAll (q : Ques) (gs : List (List Row)) : Nat := (gs.filter fun g => g.all (fitsF q)).length
def nAny (q : Ques) (gs : List (List Row)) : Nat := (gs.filter fun g => g.any (fitsF q)).length
def without (q : Ques) (gs : List (List Row)) : Int := gs.foldl (fun n g => n * ((left q g).length : Int)) 1
def pairsF (a b : List Row) (c o : Int) : List (Row × Row) := (a.map fun r => (b.filter fun m => decide (col c r = col o m)).map fun m => (r, m)).flatten
def rest (kept : List Row) (gs : List (List Row)) (c o : Int) : List (List Row) := gs.map fun g => g.filter fun r => !decide (col o r ∈ kept.map (col c))
def apartF (g1 g2 : List (List Row)) (c o : Int) : Option (List Row × List Row) :=
  ((List.range (prodL g1).toNat).find? fun (k : Nat) => (rest (mendF g1 k) g2 c o).all fun g => !g.isEmpty).map fun k => (mendF g1 k, (rest (mendF g1 k) g2 c o).map fun g => g.getD 0 [])
def eApart : Option (List Row × List Row) → PyData
  | none => .none
  | some p => .tuple [eR p.1, eR p.2]
/-- a table with its key -/
structure OkTab (wd : Nat) (rows : List Row) (key : Row) : Prop where
  ne : rows ≠ []
  few : rows.length ≤ 40
  w6 : wd ≤ 6
  wid : ∀ r ∈ rows, r.length = wd
  asc : rows.Pairwise (· < ·)
  kasc : key.Pairwise (· < ·)
  krng : ∀ x ∈ key, 0 ≤ x ∧ x < (wd : Int)
def sp_check_broken : ASp := fun oo ds K => ∃ (wd : Nat) (rows : List Row) (key : Row), oo = none ∧ ds = [eR rows, tI key] ∧ OkTab wd rows key ∧ K (.dat .none) none
def sp_groups_of : ASp := fun oo ds K => ∃ (wd : Nat) (rows : List Row) (key : Row), oo = none ∧ ds = [eR rows, tI key] ∧ OkTab wd rows key ∧ K (.own none (.lst ((groupsF rows key).map eR))) none
def sp_groups : ASp := fun oo ds K => ∃ (wd : Nat) (rows : List Row) (key : Row), oo = none ∧ ds = [eR rows, tI key] ∧ OkTab wd rows key ∧ K (.dat (.tuple ((groupsF rows key).map eR))) none
def sp_count : ASp := fun oo ds K => ∃ (wd : Nat) (rows : List Row) (key : Row), oo = none ∧ ds = [eR rows, tI key] ∧ OkTab wd rows key ∧ K (.dat (.int (countF rows key))) none
def sp_mending_at : ASp := fun oo ds K => ∃ (wd : Nat) (rows : List Row) (key : Row) (n : Int), oo = none ∧ ds = [eR rows, tI key, .int n] ∧ OkTab wd rows key ∧ 0 ≤ n ∧ n < countF rows key ∧ K (.dat (eR (mendF (groupsF rows key) n))) none
def sp_is_mending : ASp := fun oo ds K => ∃ (wd : Nat) (rows : List Row) (key : Row) (kept : List Row), oo = none ∧ ds = [eR rows, tI key, eR kept] ∧ OkTab wd rows key ∧ K (.dat (.bool (isMend (groupsF rows key) kept))) none
def sp_fits : ASp := fun oo ds K => ∃ (q : Ques) (r : Row), oo = none ∧ ds = [eQ q, tI r] ∧ q.length = r.length ∧ r.length ≤ 6 ∧ K (.dat (.bool (fitsF q r))) none
def sp_check_question : ASp := fun oo ds K => ∃ (wd : Nat) (rows : List Row) (key : Row) (q : Ques), oo = none ∧ ds = [eR rows, tI key, eQ q] ∧ OkTab wd rows key ∧ q.length = wd ∧ K (.dat .none) none
def sp_is_sure : ASp := fun oo ds K => ∃ (wd : Nat) (rows : List Row) (key : Row) (q : Ques), oo = none ∧ ds = [eR rows, tI key, eQ q] ∧ OkTab wd rows key ∧ q.length = wd ∧ K (.dat (sureF q (groupsF rows key) 0)) none
def sp_sums : ASp := fun oo ds K => ∃ (wd : Nat) (rows : List Row) (key : Row) (c : Int), oo = none ∧ ds = [eR rows, tI key, .int c] ∧ OkTab wd rows key ∧ 0 ≤ c ∧ c < (wd : Int) ∧ K (.dat (.tuple [.int ((groupsF rows key).map (minC c)).sum, .int ((groupsF rows key).map (maxC c)).sum])) none
def sp_counts : ASp := fun oo ds K => ∃ (wd : Nat) (rows : List Row) (key : Row) (q : Ques), oo = none ∧ ds = [eR rows, tI key, eQ q] ∧ OkTab wd rows key ∧ q.length = wd ∧ K (.dat (.tuple [.int (nAll q (groupsF rows key)), .int (nAny q (groupsF rows key))])) none
def sp_chance : ASp := fun oo ds K => ∃ (wd : Nat) (rows : List Row) (key : Row) (q : Ques), oo = none ∧ ds = [eR rows, tI key, eQ q] ∧ OkTab wd rows key ∧ q.length = wd ∧ K (.dat (.tuple [.int (countF rows key - without q (groupsF rows key)), .int (countF rows key)])) none
def sp_pairs_of : ASp := fun oo ds K => ∃ (a b : List Row) (c o : Int), oo = none ∧ ds = [eR a, eR b, .int c, .int o] ∧ a.length ≤ 40 ∧ b.length ≤ 40 ∧ 0 ≤ c ∧ 0 ≤ o ∧ (∀ r ∈ a, c < (r.length : Int)) ∧ (∀ r ∈ b, o < (r.length : Int)) ∧ K (.dat (.list ((pairsF a b c o).map fun p => .tuple [tI p.1, tI p.2]))) none
def sp_check_two : ASp := fun oo ds K => ∃ (w1 w2 : Nat) (a : List Row) (k1 : Row) (b : List Row) (k2 : Row) (c o : Int), oo = none ∧ ds = [eR a, tI k1, eR b, tI k2, .int c, .int o] ∧ OkTab w1 a k1 ∧ OkTab w2 b k2 ∧ 0 ≤ c ∧ c < (w1 : Int) ∧ 0 ≤ o ∧ o < (w2 : Int) ∧ K (.dat .none) none
def sp_apart : ASp := fun oo ds K => ∃ (w1 w2 : Nat) (a : List Row) (k1 : Row) (b : List Row) (k2 : Row) (c o : Int), oo = none ∧ ds = [eR a, tI k1, eR b, tI k2, .int c, .int o] ∧ OkTab w1 a k1 ∧ OkTab w2 b k2 ∧ 0 ≤ c ∧ c < (w1 : Int) ∧ 0 ≤ o ∧ o < (w2 : Int) ∧ countF a k1 ≤ 5000 ∧ K (.dat (eApart (apartF (groupsF a k1) (groupsF b k2) c o))) none
def sp_takes_apart : ASp := fun oo ds K => ∃ (w1 w2 : Nat) (a : List Row) (k1 : Row) (b : List Row) (k2 : Row) (c o : Int) (x y : List Row), oo = none ∧ ds = [eR a, tI k1, eR b, tI k2, .int c, .int o, .tuple [eR x, eR y]] ∧ OkTab w1 a k1 ∧ OkTab w2 b k2 ∧ 0 ≤ c ∧ c < (w1 : Int) ∧ 0 ≤ o ∧ o < (w2 : Int) ∧ x.length ≤ 40 ∧ y.length ≤ 40 ∧ (∀ r ∈ x, r.length = w1) ∧ (∀ r ∈ y, r.length = w2) ∧
  isMend (groupsF a k1) x = true ∧ isMend (groupsF b k2) y = true ∧ pairsF x y c o = [] ∧ K (.dat (.bool true)) none
/-! the law's own -/
def tape (ns : List Int) (t l s : Int) : List PyData := [.list (ns.map .int), .int t, .int l, .int s]
structure OkTape (ns : List Int) (t l s : Int) : Prop where
  t0 : 0 ≤ t
  t1 : t ≤ ns.length
  l0 : 0 ≤ l
def sp__law_begin : ASp := fun oo ds K => ∃ ns : List Int, oo = none ∧ ds = [.list (ns.map .int)] ∧ ns.length ≤ 63 ∧ ∀ s, K (.own none (.lst (tape ns 0 0 s))) none
def sp__law_take : ASp := fun oo ds K => ∃ (ns : List Int) (t l s many : Int), oo = some (.lst (tape ns t l s)) ∧ ds = [.int many] ∧ OkTape ns t l s ∧ 1 ≤ many ∧ many ≤ 1000000 ∧
  ∀ r t' l' s', 0 ≤ r → r < many → OkTape ns t' l' s' → K (.dat (.int r)) (some (.lst (tape ns t' l' s')))
structure OkRows (wd : Nat) (rows : List Row) : Prop where
  ne : rows ≠ []
  few : rows.length ≤ 7
  wid : ∀ r ∈ rows, r.length = wd
  asc : rows.Pairwise (· < ·)
  rng : ∀ r ∈ rows, ∀ x ∈ r, 0 ≤ x ∧ x < 3
def sp__law_rows : ASp := fun oo ds K => ∃ (ns : List Int) (t l s : Int) (wd : Nat), oo = some (.lst (tape ns t l s)) ∧ ds = [.int wd] ∧ OkTape ns t l s ∧ 1 ≤ wd ∧ wd ≤ 3 ∧
  ∀ rows t' l' s', OkRows wd rows → OkTape ns t' l' s' → K (.dat (eR rows)) (some (.lst (tape ns t' l' s')))
def sp__law_part1 : ASp := fun oo ds K => ∃ (ns : List Int) (t l s : Int) (wd : Nat) (rows : List Row) (key : Row) (q : Ques) (kind : PyData) (c : Int), oo = some (.lst (tape ns t l s)) ∧
  ds = [.int wd, eR rows, tI key, .int (countF rows key), .tuple ((groupsF rows key).map eR), eQ q, kind, .int c] ∧ OkTape ns t l s ∧ 2 ≤ wd ∧ wd ≤ 3 ∧ OkRows wd rows ∧ OkTab wd rows key ∧ q.length = wd ∧ 0 ≤ c ∧ c < (wd : Int) ∧
  (kind = sv "sure" ∧ (groupsF rows key).any (fun g => (left q g).isEmpty) = true ∨ kind = sv "not" ∧ (groupsF rows key).any (fun g => (left q g).isEmpty) = false) ∧ ∀ o, K (.dat (.bool true)) (some (.lst o))
def sp_law : ASp := fun oo ds K => ∃ ns : List Int, oo = none ∧ ds = [.list (ns.map .int)] ∧ ns.length ≤ 63 ∧ K (.dat (.bool true)) none
end K69

set_option maxHeartbeats 4000000
namespace K69
open PySem PySem.Spec PyProof.Rows L2 Ab
def topS (i : Nat) : Stmt := PySem.Challenge.pw_tableguild_k69_whole_mendings_and_questi.main.body.getD i (.Pass ⟨0, 0, 0, 0⟩)
abbrev st_check_broken : Stmt := topS 6
abbrev st_groups_of : Stmt := topS 7
abbrev st_groups : Stmt := topS 8
abbrev st_count : Stmt := topS 9
abbrev st_mending_at : Stmt := topS 10
abbrev st_is_mending : Stmt := topS 11
abbrev st_fits : Stmt := topS 12
abbrev st_check_question : Stmt := topS 13
abbrev st_is_sure : Stmt := topS 14
abbrev st_sums : Stmt := topS 15
abbrev st_counts : Stmt := topS 16
abbrev st_chance : Stmt := topS 17
abbrev st_pairs_of : Stmt := topS 18
abbrev st_check_two : Stmt := topS 19
abbrev st_apart : Stmt := topS 20
abbrev st_takes_apart : Stmt := topS 21
abbrev st__law_begin : Stmt := topS 23
abbrev st__law_take : Stmt := topS 24
abbrev st__law_rows : Stmt := topS 25
abbrev st__law_part1 : Stmt := topS 26
abbrev st_law : Stmt := topS 27
theorem sc_check_broken : FnScope ["rows", "key", "row", "k", "width", "column"] ["rows", "key"] (defScope st_check_broken) := ⟨rfl, rfl, rfl, by decide +kernel, rfl, by decide +kernel, by decide +kernel⟩
theorem sc_groups_of : FnScope ["rows", "key", "found", "row", "column", "name"] ["rows", "key"] (defScope st_groups_of) := ⟨rfl, rfl, rfl, by decide +kernel, rfl, by decide +kernel, by decide +kernel⟩
theorem sc_groups : FnScope ["rows", "key"] ["rows", "key"] (defScope st_groups) := ⟨rfl, rfl, rfl, by decide +kernel, rfl, by decide +kernel, by decide +kernel⟩
theorem sc_count : FnScope ["rows", "key", "found", "group"] ["rows", "key"] (defScope st_count) := ⟨rfl, rfl, rfl, by decide +kernel, rfl, by decide +kernel, by decide +kernel⟩
theorem sc_mending_at : FnScope ["rows", "key", "number", "kept", "group"] ["rows", "key", "number"] (defScope st_mending_at) := ⟨rfl, rfl, rfl, by decide +kernel, rfl, by decide +kernel, by decide +kernel⟩
theorem sc_is_mending : FnScope ["rows", "key", "kept", "sets", "k"] ["rows", "key", "kept"] (defScope st_is_mending) := ⟨rfl, rfl, rfl, by decide +kernel, rfl, by decide +kernel, by decide +kernel⟩
theorem sc_fits : FnScope ["question", "row", "k", "wanted"] ["question", "row"] (defScope st_fits) := ⟨rfl, rfl, rfl, by decide +kernel, rfl, by decide +kernel, by decide +kernel⟩
theorem sc_check_question : FnScope ["rows", "key", "question"] ["rows", "key", "question"] (defScope st_check_question) := ⟨rfl, rfl, rfl, by decide +kernel, rfl, by decide +kernel, by decide +kernel⟩
theorem sc_is_sure : FnScope ["rows", "key", "question", "kept", "number", "group", "left", "row"] ["rows", "key", "question"] (defScope st_is_sure) := ⟨rfl, rfl, rfl, by decide +kernel, rfl, by decide +kernel, by decide +kernel⟩
theorem sc_sums : FnScope ["rows", "key", "column", "sets", "least", "row", "group"] ["rows", "key", "column"] (defScope st_sums) := ⟨rfl, rfl, rfl, by decide +kernel, rfl, by decide +kernel, by decide +kernel⟩
theorem sc_counts : FnScope ["rows", "key", "question", "sets", "least", "group", "row"] ["rows", "key", "question"] (defScope st_counts) := ⟨rfl, rfl, rfl, by decide +kernel, rfl, by decide +kernel, by decide +kernel⟩
theorem sc_chance : FnScope ["rows", "key", "question", "whole", "without", "group", "row"] ["rows", "key", "question"] (defScope st_chance) := ⟨rfl, rfl, rfl, by decide +kernel, rfl, by decide +kernel, by decide +kernel⟩
theorem sc_pairs_of : FnScope ["first", "second", "column", "other", "found", "row", "more"] ["first", "second", "column", "other"] (defScope st_pairs_of) := ⟨rfl, rfl, rfl, by decide +kernel, rfl, by decide +kernel, by decide +kernel⟩
theorem sc_check_two : FnScope ["first", "key", "second", "other_key", "column", "other"] ["first", "key", "second", "other_key", "column", "other"] (defScope st_check_two) := ⟨rfl, rfl, rfl, by decide +kernel, rfl, by decide +kernel, by decide +kernel⟩
theorem sc_apart : FnScope ["first", "key", "second", "other_key", "column", "other", "number", "kept", "taken", "row", "rest", "group"] ["first", "key", "second", "other_key", "column", "other"] (defScope st_apart) := ⟨rfl, rfl, rfl, by decide +kernel, rfl, by decide +kernel, by decide +kernel⟩
theorem sc_takes_apart : FnScope ["first", "key", "second", "other_key", "column", "other", "told", "one", "two"] ["first", "key", "second", "other_key", "column", "other", "told"] (defScope st_takes_apart) := ⟨rfl, rfl, rfl, by decide +kernel, rfl, by decide +kernel, by decide +kernel⟩
theorem sc__law_begin : FnScope ["script", "seed", "cell"] ["script"] (defScope st__law_begin) := ⟨rfl, rfl, rfl, by decide +kernel, rfl, by decide +kernel, by decide +kernel⟩
theorem sc__law_take : FnScope ["d", "many", "small", "digit"] ["d", "many"] (defScope st__law_take) := ⟨rfl, rfl, rfl, by decide +kernel, rfl, by decide +kernel, by decide +kernel⟩
theorem sc__law_rows : FnScope ["d", "width", "k", "j"] ["d", "width"] (defScope st__law_rows) := ⟨rfl, rfl, rfl, by decide +kernel, rfl, by decide +kernel, by decide +kernel⟩
theorem sc__law_part1 : FnScope ["d", "width", "rows", "key", "many", "parts", "question", "kind", "column", "lows", "highs", "value", "asked", "k", "a", "b", "row", "more", "wide", "other", "spot", "pair", "one", "two", "line", "j", "back"] ["d", "width", "rows", "key", "many", "parts", "question", "kind", "column"] (defScope st__law_part1) := ⟨rfl, rfl, rfl, by decide +kernel, rfl, by decide +kernel, by decide +kernel⟩
theorem sc_law : FnScope ["script", "d", "width", "rows", "key", "k", "many", "parts", "product", "part", "numbers", "number", "question", "hit", "whole", "kind", "told", "low", "high", "row", "j", "everything", "column", "least", "most", "totals"] ["script"] (defScope st_law) := ⟨rfl, rfl, rfl, by decide +kernel, rfl, by decide +kernel, by decide +kernel⟩
structure Defs (K : PySem.W.Frag) (mg : Str → Option Value) where
  f_check_broken : Addr
  fd_check_broken : FuncData
  F_check_broken : Fun K "check_broken" "check_broken" st_check_broken f_check_broken fd_check_broken
  n_check_broken : Binds K fd_check_broken ["rows", "key"] []
  g_check_broken : mg "check_broken" = some (.ref f_check_broken)
  f_groups_of : Addr
  fd_groups_of : FuncData
  F_groups_of : Fun K "groups_of" "groups_of" st_groups_of f_groups_of fd_groups_of
  n_groups_of : Binds K fd_groups_of ["rows", "key"] []
  g_groups_of : mg "groups_of" = some (.ref f_groups_of)
  f_groups : Addr
  fd_groups : FuncData
  F_groups : Fun K "groups" "groups" st_groups f_groups fd_groups
  n_groups : Binds K fd_groups ["rows", "key"] []
  g_groups : mg "groups" = some (.ref f_groups)
  f_count : Addr
  fd_count : FuncData
  F_count : Fun K "count" "count" st_count f_count fd_count
  n_count : Binds K fd_count ["rows", "key"] []
  g_count : mg "count" = some (.ref f_count)
  f_mending_at : Addr
  fd_mending_at : FuncData
  F_mending_at : Fun K "mending_at" "mending_at" st_mending_at f_mending_at fd_mending_at
  n_mending_at : Binds K fd_mending_at ["rows", "key", "number"] []
  g_mending_at : mg "mending_at" = some (.ref f_mending_at)
  f_is_mending : Addr
  fd_is_mending : FuncData
  F_is_mending : Fun K "is_mending" "is_mending" st_is_mending f_is_mending fd_is_mending
  n_is_mending : Binds K fd_is_mending ["rows", "key", "kept"] []
  g_is_mending : mg "is_mending" = some (.ref f_is_mending)
  f_fits : Addr
  fd_fits : FuncData
  F_fits : Fun K "fits" "fits" st_fits f_fits fd_fits
  n_fits : Binds K fd_fits ["question", "row"] []
  g_fits : mg "fits" = some (.ref f_fits)
  f_check_question : Addr
  fd_check_question : FuncData
  F_check_question : Fun K "check_question" "check_question" st_check_question f_check_question fd_check_question
  n_check_question : Binds K fd_check_question ["rows", "key", "question"] []
  g_check_question : mg "check_question" = some (.ref f_check_question)
  f_is_sure : Addr
  fd_is_sure : FuncData
  F_is_sure : Fun K "is_sure" "is_sure" st_is_sure f_is_sure fd_is_sure
  n_is_sure : Binds K fd_is_sure ["rows", "key", "question"] []
  g_is_sure : mg "is_sure" = some (.ref f_is_sure)
  f_sums : Addr
  fd_sums : FuncData
  F_sums : Fun K "sums" "sums" st_sums f_sums fd_sums
  n_sums : Binds K fd_sums ["rows", "key", "column"] []
  g_sums : mg "sums" = some (.ref f_sums)
  f_counts : Addr
  fd_counts : FuncData
  F_counts : Fun K "counts" "counts" st_counts f_counts fd_counts
  n_counts : Binds K fd_counts ["rows", "key", "question"] []
  g_counts : mg "counts" = some (.ref f_counts)
  f_chance : Addr
  fd_chance : FuncData
  F_chance : Fun K "chance" "chance" st_chance f_chance fd_chance
  n_chance : Binds K fd_chance ["rows", "key", "question"] []
  g_chance : mg "chance" = some (.ref f_chance)
  f_pairs_of : Addr
  fd_pairs_of : FuncData
  F_pairs_of : Fun K "pairs_of" "pairs_of" st_pairs_of f_pairs_of fd_pairs_of
  n_pairs_of : Binds K fd_pairs_of ["first", "second", "column", "other"] []
  g_pairs_of : mg "pairs_of" = some (.ref f_pairs_of)
  f_check_two : Addr
  fd_check_two : FuncData
  F_check_two : Fun K "check_two" "check_two" st_check_two f_check_two fd_check_two
  n_check_two : Binds K fd_check_two ["first", "key", "second", "other_key", "column", "other"] []
  g_check_two : mg "check_two" = some (.ref f_check_two)
  f_apart : Addr
  fd_apart : FuncData
  F_apart : Fun K "apart" "apart" st_apart f_apart fd_apart
  n_apart : Binds K fd_apart ["first", "key", "second", "other_key", "column", "other"] []
  g_apart : mg "apart" = some (.ref f_apart)
  f_takes_apart : Addr
  fd_takes_apart : FuncData
  F_takes_apart : Fun K "takes_apart" "takes_apart" st_takes_apart f_takes_apart fd_takes_apart
  n_takes_apart : Binds K fd_takes_apart ["first", "key", "second", "other_key", "column", "other", "told"] []
  g_takes_apart : mg "takes_apart" = some (.ref f_takes_apart)
  f__law_begin : Addr
  fd__law_begin : FuncData
  F__law_begin : Fun K "_law_begin" "_law_begin" st__law_begin f__law_begin fd__law_begin
  n__law_begin : Binds K fd__law_begin ["script"] []
  g__law_begin : mg "_law_begin" = some (.ref f__law_begin)
  f__law_take : Addr
  fd__law_take : FuncData
  F__law_take : Fun K "_law_take" "_law_take" st__law_take f__law_take fd__law_take
  n__law_take : Binds K fd__law_take ["d", "many"] []
  g__law_take : mg "_law_take" = some (.ref f__law_take)
  f__law_rows : Addr
  fd__law_rows : FuncData
  F__law_rows : Fun K "_law_rows" "_law_rows" st__law_rows f__law_rows fd__law_rows
  n__law_rows : Binds K fd__law_rows ["d", "width"] []
  g__law_rows : mg "_law_rows" = some (.ref f__law_rows)
  f__law_part1 : Addr
  fd__law_part1 : FuncData
  F__law_part1 : Fun K "_law_part1" "_law_part1" st__law_part1 f__law_part1 fd__law_part1
  n__law_part1 : Binds K fd__law_part1 ["d", "width", "rows", "key", "many", "parts", "question", "kind", "column"] []
  g__law_part1 : mg "_law_part1" = some (.ref f__law_part1)
  f_law : Addr
  fd_law : FuncData
  F_law : Fun K "law" "law" st_law f_law fd_law
  n_law : Binds K fd_law ["script"] []
  g_law : mg "law" = some (.ref f_law)
  x_law : ∀ (s : Shared) (u : Value), BindsTo s fd_law ⟨[u], []⟩ [("script", u)]
  b_abs : mg "abs" = none
  b_all : mg "all" = none
  b_any : mg "any" = none
  b_enumerate : mg "enumerate" = none
  b_int : mg "int" = none
  b_len : mg "len" = none
  b_list : mg "list" = none
  b_max : mg "max" = none
  b_min : mg "min" = none
  b_range : mg "range" = none
  b_set : mg "set" = none
  b_sorted : mg "sorted" = none
  b_sum : mg "sum" = none
  b_tuple : mg "tuple" = none
  t_MOST_MENDINGS : Tok
  c_MOST_MENDINGS : mg "MOST_MENDINGS" = some (.int 5000 t_MOST_MENDINGS)
  t_MOST_ROWS : Tok
  c_MOST_ROWS : mg "MOST_ROWS" = some (.int 40 t_MOST_ROWS)
end K69

set_option maxHeartbeats 4000000
/-! M69b: the groups. -/
namespace K69
open PySem Ab
open PySem.W (dataLe dataLt)
abbrev keysK (kvs : List (List Int × List PyData)) : List (List Int) := kvs.map (·.1)
theorem sda_keys (k : List Int) (d : PyData) : ∀ kvs, keysK (sdaK kvs k d) = if k ∈ keysK kvs then keysK kvs else keysK kvs ++ [k]
  | [] => by simp [sdaK]
  | (k', ds) :: r => by
    have ih := sda_keys k d r
    unfold sdaK
    by_cases e : k' = k
    · rw [if_pos e]
      simp [e]
    · have e' : ¬ k = k' := fun z => e z.symm
      rw [if_neg e]
      show k' :: keysK (sdaK r k d) = if k ∈ k' :: keysK r then k' :: keysK r else k' :: keysK r ++ [k]
      rw [ih]
      by_cases h : k ∈ keysK r
      · rw [if_pos h, if_pos (List.mem_cons_of_mem _ h)]
      · rw [if_neg h, if_neg (by simp only [List.mem_cons, not_or]; exact ⟨e', h⟩)]
        rfl
theorem sda_at (k k' : List Int) (d : PyData) : ∀ kvs, dAt (sdaK kvs k d) k' = if k' = k then some ((dAt kvs k).getD [] ++ [d]) else dAt kvs k'
  | [] => by
    unfold sdaK dAt
    by_cases e : k' = k
    · simp [e]
    · have e' : ¬ k = k' := fun z => e z.symm
      simp [e, e']
  | (k0, ds) :: r => by
    have ih := sda_at k k' d r
    unfold sdaK
    by_cases e : k0 = k
    · rw [if_pos e]
      unfold dAt
      by_cases e2 : k' = k
      · simp [e, e2]
      · have : ¬ k0 = k' := fun z => e2 (z.symm.trans e)
        simp [this, e2]
    · rw [if_neg e]
      unfold dAt at ih ⊢
      by_cases e2 : k0 = k'
      · have : ¬ k' = k := fun z => e (e2.trans z)
        simp [e2, this]
      · rw [List.find?_cons_of_neg (by simpa using e2), List.find?_cons_of_neg (by simpa using e), List.find?_cons_of_neg (by simpa using e2)]
        exact ih
theorem dK_snoc (pre : List Row) (r key : Row) : dK (pre ++ [r]) key = sdaK (dK pre key) (kf key r) (tI r) := by
  unfold dK
  rw [List.foldl_append]
  rfl
theorem rev_ind {α : Type} {C : List α → Prop} (h0 : C []) (hs : ∀ l a, C l → C (l ++ [a])) : ∀ l, C l := fun l => by
  have : ∀ m : List α, C m.reverse := by
    intro m
    induction m with
    | nil => exact h0
    | cons a m ih =>
      rw [List.reverse_cons]
      exact hs _ _ ih
  have g := this l.reverse
  rwa [List.reverse_reverse] at g
theorem dK_mem (key : Row) : ∀ (rows : List Row) (k : Row), k ∈ keysK (dK rows key) ↔ ∃ r ∈ rows, kf key r = k := by
  refine rev_ind (fun k => by simp [dK]) fun pre r ih k => ?_
  rw [dK_snoc, sda_keys]
  have e : (∃ x ∈ pre ++ [r], kf key x = k) ↔ (∃ x ∈ pre, kf key x = k) ∨ kf key r = k := by
    simp only [List.mem_append, List.mem_singleton]
    constructor
    · rintro ⟨x, h | h, e⟩
      · exact .inl ⟨x, h, e⟩
      · exact .inr (by rw [← h]; exact e)
    · rintro (⟨x, h, e⟩ | h)
      · exact ⟨x, .inl h, e⟩
      · exact ⟨r, .inr rfl, h⟩
  rw [e, ← ih k]
  split
  · rename_i h
    exact ⟨.inl, fun g => g.elim id fun z => by rw [← z]; exact h⟩
  · rw [List.mem_append, List.mem_singleton]
    exact or_congr Iff.rfl eq_comm
theorem dK_nodup (key : Row) : ∀ rows : List Row, (keysK (dK rows key)).Nodup := by
  refine rev_ind (by simp [dK]) fun pre r ih => ?_
  rw [dK_snoc, sda_keys]
  split
  · exact ih
  · rename_i h
    rw [List.nodup_append]
    exact ⟨ih, by simp, fun a ha b hb e => h (by rw [List.mem_singleton.mp hb] at e; rw [← e]; exact ha)⟩
theorem dK_at (key : Row) : ∀ (rows : List Row) (k : Row), (dAt (dK rows key) k).getD [] = (grp rows key k).map tI ∧ (k ∈ keysK (dK rows key) → (dAt (dK rows key) k).isSome = true) := by
  refine rev_ind (fun k => ⟨rfl, fun h => by simp [dK] at h⟩) fun pre r ih k => ?_
  rw [dK_snoc, sda_at]
  by_cases e : k = kf key r
  · subst e
    rw [if_pos rfl]
    refine ⟨?_, fun _ => rfl⟩
    show (dAt (dK pre key) (kf key r)).getD [] ++ [tI r] = _
    rw [(ih _).1]
    unfold grp
    rw [List.filter_append, List.map_append]
    simp
  · rw [if_neg e]
    refine ⟨?_, fun h => ?_⟩
    · rw [(ih k).1]
      unfold grp
      rw [List.filter_append]
      have : ¬ kf key r = k := fun z => e z.symm
      simp [this]
    · rw [sda_keys] at h
      refine (ih k).2 ?_
      split at h
      · exact h
      · exact (List.mem_append.mp h).resolve_right fun z => e (List.mem_singleton.mp z)
theorem dK_some {rows : List Row} {key k : Row} (h : k ∈ keysK (dK rows key)) : dAt (dK rows key) k = some ((grp rows key k).map tI) := by
  obtain ⟨h1, h2⟩ := dK_at key rows k
  have h2 := h2 h
  cases e : dAt (dK rows key) k with
  | none =>
    rw [e] at h2
    cases h2
  | some ds =>
    rw [e] at h1
    exact congrArg some h1
theorem tI_lt (a b : List Int) : dataLt (tI a) (tI b) = decide (a < b) := by
  show dataLt (.tuple _) (.tuple _) = _
  rw [PySem.W.dataLt_tuple]
  exact PySem.W.dataLt_ints a b
theorem leT_iff (a b : Row) : leT a b = true ↔ a ≤ b := by
  show (!dataLt (tI b) (tI a)) = true ↔ _
  rw [tI_lt]
  simp [List.not_lt]
theorem leT_total (a b : Row) : (leT a b || leT b a) = true := by
  rw [Bool.or_eq_true, leT_iff, leT_iff]
  exact List.le_total a b
theorem leT_trans (a b c : Row) (h1 : leT a b = true) (h2 : leT b c = true) : leT a c = true := by
  rw [leT_iff] at h1 h2 ⊢
  exact List.le_trans h1 h2
theorem leT_anti {a b : Row} (h1 : leT a b = true) (h2 : leT b a = true) : a = b := by
  rw [leT_iff] at h1 h2
  exact List.le_antisymm h1 h2
abbrev Srt (l : List Row) : Prop := l.Pairwise fun a b => leT a b = true
theorem gk_srt (rows : List Row) (key : Row) : Srt (gk rows key) := List.pairwise_mergeSort leT_trans leT_total _
theorem gk_mem {rows : List Row} {key k : Row} : k ∈ gk rows key ↔ ∃ r ∈ rows, kf key r = k := by
  unfold gk
  rw [List.mem_mergeSort]
  exact dK_mem key rows k
theorem gk_nodup (rows : List Row) (key : Row) : (gk rows key).Nodup := (List.mergeSort_perm _ _).nodup_iff.mpr (dK_nodup key rows)
theorem gk_uniq {rows : List Row} {key : Row} {l : List Row} (h1 : l.Perm ((dK rows key).map (·.1))) (h2 : l.Pairwise fun q r => dataLe false tI q r = true) : l = gk rows key :=
  List.Perm.eq_of_pairwise (fun a b _ _ => leT_anti) h2 (gk_srt rows key) (h1.trans (List.mergeSort_perm _ _).symm)
theorem sda_len (k : List Int) (d : PyData) : ∀ kvs, (sdaK kvs k d).length ≤ kvs.length + 1
  | [] => by simp [sdaK]
  | (k', ds) :: r => by
    unfold sdaK
    split
    · simp
    · have := sda_len k d r
      rw [List.length_cons, List.length_cons]
      omega
theorem sda_each {k : List Int} {d : PyData} {n : Nat} : ∀ {kvs : List (List Int × List PyData)}, (∀ e ∈ kvs, e.2.length ≤ n) → ∀ e ∈ sdaK kvs k d, e.2.length ≤ n + 1
  | [], _, e, he => by
    have he : e ∈ [(k, [d])] := he
    rw [List.mem_singleton.mp he]
    simp
  | (k', ds) :: r, h, e, he => by
    unfold sdaK at he
    split at he
    · rcases List.mem_cons.mp he with rfl | he
      · have := h _ List.mem_cons_self
        show (ds ++ [d]).length ≤ _
        rw [List.length_append]
        exact Nat.succ_le_succ this
      · exact Nat.le_succ_of_le (h e (List.mem_cons_of_mem _ he))
    · rcases List.mem_cons.mp he with rfl | he
      · exact Nat.le_succ_of_le (h _ List.mem_cons_self)
      · exact sda_each (fun x hx => h x (List.mem_cons_of_mem _ hx)) e he
theorem dK_size (key : Row) : ∀ rows : List Row, (dK rows key).length ≤ rows.length ∧ ∀ e ∈ dK rows key, e.2.length ≤ rows.length := by
  refine rev_ind ⟨Nat.le_refl _, fun _ z => nomatch z⟩ fun pre r ih => ?_
  rw [dK_snoc, List.length_append, List.length_singleton]
  have := sda_len (kf key r) (tI r) (dK pre key)
  exact ⟨by omega, sda_each ih.2⟩
theorem kf_len (key r : Row) : (kf key r).length = key.length := by
  unfold kf
  rw [List.length_map]
end K69

set_option maxHeartbeats 4000000
namespace K69
open PySem PySem.Spec PyProof.Rows L2 Ab
theorem emp_map {α β : Type} (f : α → β) (xs : List α) : (xs.map f).isEmpty = xs.isEmpty := by cases xs <;> rfl
theorem all_map {α : Type} (f : α → Bool) (xs : List α) : (xs.map f).all id = xs.all f := by rw [List.all_map]; rfl
theorem any_map' {α : Type} (f : α → Bool) (xs : List α) : (xs.map f).any id = xs.any f := by rw [List.any_map]; rfl
theorem atI_map {α : Type} (f : α → PyData) {xs : List α} {k : Nat} (h : k < xs.length) : atI (xs.map f) (k : Int) = some (f xs[k]) := atI_nat (by rw [List.getElem?_map, List.getElem?_eq_getElem h]; rfl)
theorem atI_ints {xs : List Int} {k : Nat} (h : k < xs.length) : atI (xs.map PyData.int) (k : Int) = some (.int (xs.getD k 0)) := by
  rw [atI_map PyData.int h, List.getD_eq_getElem?_getD, List.getElem?_eq_getElem h]
  rfl
theorem atI_nn {xs : List Int} {a : Int} (h0 : 0 ≤ a) (h : a < xs.length) : atI (xs.map PyData.int) a = some (.int (xs.getD a.toNat 0)) := by
  have g := atI_ints (xs := xs) (k := a.toNat) (by omega)
  rw [Int.toNat_of_nonneg h0] at g
  exact g
theorem rangeD0 (n : Nat) : rangeD 0 n = (List.range n).map fun (k : Nat) => PyData.int (k : Int) := by
  unfold rangeD
  congr 1
  funext k
  rw [Int.zero_add]
theorem intsD_map : ∀ ns : List Int, intsD (ns.map PyData.int) = some ns
  | [] => rfl
  | n :: ns => by
    rw [List.map_cons, intsD, intsD_map ns]
    rfl
theorem asc_len : ∀ {r : List Int} {lo hi : Int}, r.Pairwise (· < ·) → (∀ x ∈ r, lo ≤ x ∧ x < hi) → lo ≤ hi → (r.length : Int) ≤ hi - lo
  | [], _, _, _, _, h => by simp; omega
  | x :: r, lo, hi, h1, h2, _ => by
    rw [List.pairwise_cons] at h1
    have hx := h2 x List.mem_cons_self
    have := asc_len (r := r) (lo := x + 1) (hi := hi) h1.2 (fun y hy => ⟨by have := h1.1 y hy; omega, (h2 y (List.mem_cons_of_mem _ hy)).2⟩) (by omega)
    rw [List.length_cons]
    omega
theorem OkTab.klen {wd : Nat} {rows : List Row} {key : Row} (h : OkTab wd rows key) : key.length ≤ wd := by
  have := asc_len h.kasc h.krng (by omega)
  omega
theorem at_00 {a : PyData} {r : List PyData} : atI (a :: r) 0 = some a := atI_nat (j := 0) rfl
theorem all_true {α : Type} {f : α → Bool} {xs : List α} (h : ∀ x ∈ xs, f x = true) : xs.all f = true := List.all_eq_true.mpr h
section
variable {P : Program} {w : World} {K : PySem.W.Frag} {mg : Str → Option Value} {base : Heap}
theorem ok_check_broken (D : Defs K mg) : FnOk P w K mg base CX0 1 D.f_check_broken D.fd_check_broken ["rows", "key"] (toSp K sp_check_broken) := by
  refine ok_def D.F_check_broken sc_check_broken (fun oo ds Kc h => ?_) (fun cdv A outer s H E hr =>
      (ss_cons (s_if (t_w (w_orC (t_cmp op_gt dr_b (e_callB call_len_seq dc_len (by rfl) D.b_len PySem.boot_len (e_name (pv 0))) (e_globI (by rfl) D.c_MOST_ROWS) (nomark _)) (w_or1 (t_not (t_truth (e_callB (cr_all rfl) dc_all (by rfl) D.b_all boot_all (e_lc (own := [("row", 2)]) rfl sc_check_broken.nd (i_seq (e_name (pv 0))) (blkOk_by (by kernel_rfl)) (fun _ _ _ _ _ => (g_name (pg_name (i := 2) sc_check_broken.nd rfl (by first | exact Or.inl rfl | exact Or.inr rfl)))) (fun _ _ _ _ _ => ts_nil) (fun _ _ _ _ _ => (e_cmp (op_eqP hr.units) dr_eq (e_callB call_len_seq dc_len (by rfl) D.b_len PySem.boot_len (e_name (pv 2))) (e_callB call_len_seq dc_len (by rfl) D.b_len PySem.boot_len (e_ix (e_name (pv 0)) e_int)) (nomark _)))))))))) ss_never ss_nil)
      (ss_cons (s_if (t_not (t_truth (e_callB (cr_all rfl) dc_all (by rfl) D.b_all boot_all (e_lc (own := [("k", 3)]) rfl sc_check_broken.nd (i_rng1 (by rfl) D.b_range (e_op op_sub dr_i (e_callB call_len_seq dc_len (by rfl) D.b_len PySem.boot_len (e_name (pv 0))) e_int)) (blkOk_by (by kernel_rfl)) (fun _ _ _ _ _ => (g_name (pg_name (i := 3) sc_check_broken.nd rfl (by first | exact Or.inl rfl | exact Or.inr rfl)))) (fun _ _ _ _ _ => ts_nil) (fun _ _ _ _ _ => (e_cmp (op_ltP hr.units) dr_lt (e_ix (e_name (pv 0)) (e_name (pv 3))) (e_ix (e_name (pv 0)) (e_op op_addU dr_addU (e_name (pv 3)) e_int)) (nomark _))))))) ss_never ss_nil)
      (ss_cons (s_set (ps_set (i := 4) sc_check_broken.nd rfl (.inr rfl) (e_ifExp (t_truth (e_name (pv 0))) (e_callB call_len_seq dc_len (by rfl) D.b_len PySem.boot_len (e_ix (e_name (pv 0)) e_int)) e_int)))
      (ss_cons (s_if (t_w (w_andC (t_truth (e_name (pv 0))) (w_and1 (t_not (t_truth (e_callB (cr_all rfl) dc_all (by rfl) D.b_all boot_all (e_lc (own := [("column", 5)]) rfl sc_check_broken.nd (i_seq (e_name (pv 1))) (blkOk_by (by kernel_rfl)) (fun _ _ _ _ _ => (g_name (pg_name (i := 5) sc_check_broken.nd rfl (by first | exact Or.inl rfl | exact Or.inr rfl)))) (fun _ _ _ _ _ => ts_nil) (fun _ _ _ _ _ => (e_chain op_le dr_b op_lt dr_b e_int (e_name (pv 5)) (e_name (pv 4))))))))))) ss_never ss_nil)
      (ss_one (s_if (t_not (t_truth (e_callB (cr_all rfl) dc_all (by rfl) D.b_all boot_all (e_lc (own := [("k", 3)]) rfl sc_check_broken.nd (i_rng1 (by rfl) D.b_range (e_op op_sub dr_i (e_callB call_len_seq dc_len (by rfl) D.b_len PySem.boot_len (e_name (pv 1))) e_int)) (blkOk_by (by kernel_rfl)) (fun _ _ _ _ _ => (g_name (pg_name (i := 3) sc_check_broken.nd rfl (by first | exact Or.inl rfl | exact Or.inr rfl)))) (fun _ _ _ _ _ => ts_nil) (fun _ _ _ _ _ => (e_cmp (op_ltP hr.units) dr_lt (e_ix (e_name (pv 1)) (e_name (pv 3))) (e_ix (e_name (pv 1)) (e_op op_addU dr_addU (e_name (pv 3)) e_int)) (nomark _))))))) ss_never ss_nil))))))) (fun oo ds Kc h => ?_)
  · obtain ⟨wd, rows, key, rfl, rfl, _⟩ := h
    rfl
  · obtain ⟨wd, rows, key, rfl, rfl, hT, k⟩ := h
    have h1 := hT.few
    have h2 := hT.klen
    have h3 := hT.w6
    have h0 : 0 < rows.length := List.length_pos_iff.mpr hT.ne
    have e0 : atI (rows.map tI) 0 = some (tI rows[0]) := atI_map tI h0
    have hw := hT.wid rows[0] (List.getElem_mem h0)
    have hf : decide (40 < (rows.length : Int)) = false := decide_eq_false (by omega)
    have eg : ∀ {k : Nat} (hk : k < rows.length), rows.getD k [] = rows[k] := fun {k} hk => by rw [List.getD_eq_getElem?_getD, List.getElem?_eq_getElem hk]; rfl
    have rne : (!rows.isEmpty) = true := by
      cases rows with
      | nil => exact absurd rfl hT.ne
      | cons a b => rfl
    simp only [eR, List.length_map, hf, aName_eq, nm_dat, nm_own, dd_dat, dd_own, bb_bool, arg_dat, arg_own, arg_ali, das_nil, das_dat, cont_list, cont_tup, cont_own, cont_ali, contS_own, ownL_own, ownO_own, stor_dat, stor_own, iD_int, ii_int, i1_int, sAddU_int, sAddU_tup, truS_none, truS_bool, truS_int, truS_list, truS_tup, truS_ali, srcOf_list, srcOf_tup, srcOf_ali, Ab.got_some, gZ_nil, gC_cons, gT_tup, onlyDat_dat, notAli_dat, notAli_own, getO_some, fin_none, fin_some, finO_own, callA_nil, callA_dat, callA_ali, argS_none, argS_some, rt_ad, nx_ad, isN_none, isN_tup, notN_none, notN_tup, aNx, aRet, aIf, aSet, aAug, aDrop, aNever, aC, aBin, aBinR, aUn, aTst, aChain, aNot, aAnd, aOr, aIfE, aAndV, aOrV, aNotV, aNil, aCons, aTup, aLst, aCall1, aCallD, aIx, aApp, aExt, aSetIx, aTru, sLen, sAny, sAll, sSum, sList, sTuple, fI, fC, fB, aSeqI, aRng1, aFor, aFrz, gN, aUnp, aLc, aYes, aCall, aRep, aRgT, turn, wipeA, br_true, br_false, List.map_nil, List.map_cons, List.nil_append, List.cons_append, List.replicate, List.getElem?_cons_zero, List.getElem?_cons_succ, List.set_cons_zero, List.set_cons_succ, List.length_cons, List.length_nil, enS_list, enS_tup, aNotT, aEnum, aRev, aAugD, sLt_int, sLt_ints, sRepT_tup, aCall2, sIsB_eq, sNotB_eq, aDnew, aSortD, ownD_own, aSda, aTupD, datAt_dat, sAllD, aSortSetI, isN_int, notN_int, sIn_int, sNotIn_int, sEq_int, sNe_int, sEq_bool, sNe_bool, sEq_str, aSeq]
    refine lc_map (enc := tI) (fun r => .bool (decide ((r.length : Int) = (rows[0].length : Int)))) trivial (by simp [Ab.freeOf]) (small_len (by omega)) (fun r hr Ka Ks ka => ?_) ?_
    · simp only [e0, tI, List.length_map, aName_eq, nm_dat, nm_own, dd_dat, dd_own, bb_bool, arg_dat, arg_own, arg_ali, das_nil, das_dat, cont_list, cont_tup, cont_own, cont_ali, contS_own, ownL_own, ownO_own, stor_dat, stor_own, iD_int, ii_int, i1_int, sAddU_int, sAddU_tup, truS_none, truS_bool, truS_int, truS_list, truS_tup, truS_ali, srcOf_list, srcOf_tup, srcOf_ali, Ab.got_some, gZ_nil, gC_cons, gT_tup, onlyDat_dat, notAli_dat, notAli_own, getO_some, fin_none, fin_some, finO_own, callA_nil, callA_dat, callA_ali, argS_none, argS_some, rt_ad, nx_ad, isN_none, isN_tup, notN_none, notN_tup, aNx, aRet, aIf, aSet, aAug, aDrop, aNever, aC, aBin, aBinR, aUn, aTst, aChain, aNot, aAnd, aOr, aIfE, aAndV, aOrV, aNotV, aNil, aCons, aTup, aLst, aCall1, aCallD, aIx, aApp, aExt, aSetIx, aTru, sLen, sAny, sAll, sSum, sList, sTuple, fI, fC, fB, aSeqI, aRng1, aFor, aFrz, gN, aUnp, aLc, aYes, aCall, aRep, aRgT, turn, wipeA, br_true, br_false, List.map_nil, List.map_cons, List.nil_append, List.cons_append, List.replicate, List.getElem?_cons_zero, List.getElem?_cons_succ, List.set_cons_zero, List.set_cons_succ, List.length_cons, List.length_nil, enS_list, enS_tup, aNotT, aEnum, aRev, aAugD, sLt_int, sLt_ints, sRepT_tup, aCall2, sIsB_eq, sNotB_eq, aDnew, aSortD, ownD_own, aSda, aTupD, datAt_dat, sAllD, aSortSetI, isN_int, notN_int, sIn_int, sNotIn_int, sEq_int, sNe_int, sEq_bool, sNe_bool, sEq_str, aSeq]
      exact ka
    · have a1 : (rows.all fun r => decide ((r.length : Int) = (rows[0].length : Int))) = true := all_true fun r hr => decide_eq_true (by rw [hw, hT.wid r hr])
      simp only [bools_map, all_map, a1, Bool.not_true, List.length_map, aName_eq, nm_dat, nm_own, dd_dat, dd_own, bb_bool, arg_dat, arg_own, arg_ali, das_nil, das_dat, cont_list, cont_tup, cont_own, cont_ali, contS_own, ownL_own, ownO_own, stor_dat, stor_own, iD_int, ii_int, i1_int, sAddU_int, sAddU_tup, truS_none, truS_bool, truS_int, truS_list, truS_tup, truS_ali, srcOf_list, srcOf_tup, srcOf_ali, Ab.got_some, gZ_nil, gC_cons, gT_tup, onlyDat_dat, notAli_dat, notAli_own, getO_some, fin_none, fin_some, finO_own, callA_nil, callA_dat, callA_ali, argS_none, argS_some, rt_ad, nx_ad, isN_none, isN_tup, notN_none, notN_tup, aNx, aRet, aIf, aSet, aAug, aDrop, aNever, aC, aBin, aBinR, aUn, aTst, aChain, aNot, aAnd, aOr, aIfE, aAndV, aOrV, aNotV, aNil, aCons, aTup, aLst, aCall1, aCallD, aIx, aApp, aExt, aSetIx, aTru, sLen, sAny, sAll, sSum, sList, sTuple, fI, fC, fB, aSeqI, aRng1, aFor, aFrz, gN, aUnp, aLc, aYes, aCall, aRep, aRgT, turn, wipeA, br_true, br_false, List.map_nil, List.map_cons, List.nil_append, List.cons_append, List.replicate, List.getElem?_cons_zero, List.getElem?_cons_succ, List.set_cons_zero, List.set_cons_succ, List.length_cons, List.length_nil, enS_list, enS_tup, aNotT, aEnum, aRev, aAugD, sLt_int, sLt_ints, sRepT_tup, aCall2, sIsB_eq, sNotB_eq, aDnew, aSortD, ownD_own, aSda, aTupD, datAt_dat, sAllD, aSortSetI, isN_int, notN_int, sIn_int, sNotIn_int, sEq_int, sNe_int, sEq_bool, sNe_bool, sEq_str, aSeq]
      refine ⟨trivial, by omega, by omega, ?_⟩
      rw [rangeD0]
      refine lc_map (enc := fun (q : Nat) => PyData.int (q : Int)) (fun k => .bool (decide (rows.getD k [] < rows.getD (k + 1) []))) trivial (by simp [Ab.freeOf]) (small_len (by simp; omega)) (fun x hx Ka Ks ka => ?_) ?_
      · have hx : x + 1 < rows.length := by
          have := List.mem_range.mp hx
          omega
        have e3 : ((x : Int) + 1) = ((x + 1 : Nat) : Int) := by omega
        simp only [aName_eq, nm_dat, nm_own, dd_dat, dd_own, bb_bool, arg_dat, arg_own, arg_ali, das_nil, das_dat, cont_list, cont_tup, cont_own, cont_ali, contS_own, ownL_own, ownO_own, stor_dat, stor_own, iD_int, ii_int, i1_int, sAddU_int, sAddU_tup, truS_none, truS_bool, truS_int, truS_list, truS_tup, truS_ali, srcOf_list, srcOf_tup, srcOf_ali, Ab.got_some, gZ_nil, gC_cons, gT_tup, onlyDat_dat, notAli_dat, notAli_own, getO_some, fin_none, fin_some, finO_own, callA_nil, callA_dat, callA_ali, argS_none, argS_some, rt_ad, nx_ad, isN_none, isN_tup, notN_none, notN_tup, aNx, aRet, aIf, aSet, aAug, aDrop, aNever, aC, aBin, aBinR, aUn, aTst, aChain, aNot, aAnd, aOr, aIfE, aAndV, aOrV, aNotV, aNil, aCons, aTup, aLst, aCall1, aCallD, aIx, aApp, aExt, aSetIx, aTru, sLen, sAny, sAll, sSum, sList, sTuple, fI, fC, fB, aSeqI, aRng1, aFor, aFrz, gN, aUnp, aLc, aYes, aCall, aRep, aRgT, turn, wipeA, br_true, br_false, List.map_nil, List.map_cons, List.nil_append, List.cons_append, List.replicate, List.getElem?_cons_zero, List.getElem?_cons_succ, List.set_cons_zero, List.set_cons_succ, List.length_cons, List.length_nil, enS_list, enS_tup, aNotT, aEnum, aRev, aAugD, sLt_int, sLt_ints, sRepT_tup, aCall2, sIsB_eq, sNotB_eq, aDnew, aSortD, ownD_own, aSda, aTupD, datAt_dat, sAllD, aSortSetI, isN_int, notN_int, sIn_int, sNotIn_int, sEq_int, sNe_int, sEq_bool, sNe_bool, sEq_str, aSeq]
        rw [e3, atI_map tI (by omega : x < rows.length), atI_map tI hx]
        rw [eg (by omega), eg hx] at ka
        simp only [tI, aName_eq, nm_dat, nm_own, dd_dat, dd_own, bb_bool, arg_dat, arg_own, arg_ali, das_nil, das_dat, cont_list, cont_tup, cont_own, cont_ali, contS_own, ownL_own, ownO_own, stor_dat, stor_own, iD_int, ii_int, i1_int, sAddU_int, sAddU_tup, truS_none, truS_bool, truS_int, truS_list, truS_tup, truS_ali, srcOf_list, srcOf_tup, srcOf_ali, Ab.got_some, gZ_nil, gC_cons, gT_tup, onlyDat_dat, notAli_dat, notAli_own, getO_some, fin_none, fin_some, finO_own, callA_nil, callA_dat, callA_ali, argS_none, argS_some, rt_ad, nx_ad, isN_none, isN_tup, notN_none, notN_tup, aNx, aRet, aIf, aSet, aAug, aDrop, aNever, aC, aBin, aBinR, aUn, aTst, aChain, aNot, aAnd, aOr, aIfE, aAndV, aOrV, aNotV, aNil, aCons, aTup, aLst, aCall1, aCallD, aIx, aApp, aExt, aSetIx, aTru, sLen, sAny, sAll, sSum, sList, sTuple, fI, fC, fB, aSeqI, aRng1, aFor, aFrz, gN, aUnp, aLc, aYes, aCall, aRep, aRgT, turn, wipeA, br_true, br_false, List.map_nil, List.map_cons, List.nil_append, List.cons_append, List.replicate, List.getElem?_cons_zero, List.getElem?_cons_succ, List.set_cons_zero, List.set_cons_succ, List.length_cons, List.length_nil, enS_list, enS_tup, aNotT, aEnum, aRev, aAugD, sLt_int, sLt_ints, sRepT_tup, aCall2, sIsB_eq, sNotB_eq, aDnew, aSortD, ownD_own, aSda, aTupD, datAt_dat, sAllD, aSortSetI, isN_int, notN_int, sIn_int, sNotIn_int, sEq_int, sNe_int, sEq_bool, sNe_bool, sEq_str, aSeq]
        exact ka
      · have a2 : ((List.range ((rows.length : Int) - 1).toNat).all fun k => decide (rows.getD k [] < rows.getD (k + 1) [])) = true := all_true fun x hx => by
          have hx : x + 1 < rows.length := by
            have := List.mem_range.mp hx
            omega
          rw [eg (by omega), eg hx]
          exact decide_eq_true (List.pairwise_iff_getElem.mp hT.asc x (x + 1) (by omega) hx (by omega))
        simp only [bools_map, all_map, a2, emp_map, rne, Bool.not_true, e0, aName_eq, nm_dat, nm_own, dd_dat, dd_own, bb_bool, arg_dat, arg_own, arg_ali, das_nil, das_dat, cont_list, cont_tup, cont_own, cont_ali, contS_own, ownL_own, ownO_own, stor_dat, stor_own, iD_int, ii_int, i1_int, sAddU_int, sAddU_tup, truS_none, truS_bool, truS_int, truS_list, truS_tup, truS_ali, srcOf_list, srcOf_tup, srcOf_ali, Ab.got_some, gZ_nil, gC_cons, gT_tup, onlyDat_dat, notAli_dat, notAli_own, getO_some, fin_none, fin_some, finO_own, callA_nil, callA_dat, callA_ali, argS_none, argS_some, rt_ad, nx_ad, isN_none, isN_tup, notN_none, notN_tup, aNx, aRet, aIf, aSet, aAug, aDrop, aNever, aC, aBin, aBinR, aUn, aTst, aChain, aNot, aAnd, aOr, aIfE, aAndV, aOrV, aNotV, aNil, aCons, aTup, aLst, aCall1, aCallD, aIx, aApp, aExt, aSetIx, aTru, sLen, sAny, sAll, sSum, sList, sTuple, fI, fC, fB, aSeqI, aRng1, aFor, aFrz, gN, aUnp, aLc, aYes, aCall, aRep, aRgT, turn, wipeA, br_true, br_false, List.map_nil, List.map_cons, List.nil_append, List.cons_append, List.replicate, List.getElem?_cons_zero, List.getElem?_cons_succ, List.set_cons_zero, List.set_cons_succ, List.length_cons, List.length_nil, enS_list, enS_tup, aNotT, aEnum, aRev, aAugD, sLt_int, sLt_ints, sRepT_tup, aCall2, sIsB_eq, sNotB_eq, aDnew, aSortD, ownD_own, aSda, aTupD, datAt_dat, sAllD, aSortSetI, isN_int, notN_int, sIn_int, sNotIn_int, sEq_int, sNe_int, sEq_bool, sNe_bool, sEq_str, aSeq]
        refine ⟨trivial, ?_⟩
        simp only [tI, List.length_map, emp_map, rne, aName_eq, nm_dat, nm_own, dd_dat, dd_own, bb_bool, arg_dat, arg_own, arg_ali, das_nil, das_dat, cont_list, cont_tup, cont_own, cont_ali, contS_own, ownL_own, ownO_own, stor_dat, stor_own, iD_int, ii_int, i1_int, sAddU_int, sAddU_tup, truS_none, truS_bool, truS_int, truS_list, truS_tup, truS_ali, srcOf_list, srcOf_tup, srcOf_ali, Ab.got_some, gZ_nil, gC_cons, gT_tup, onlyDat_dat, notAli_dat, notAli_own, getO_some, fin_none, fin_some, finO_own, callA_nil, callA_dat, callA_ali, argS_none, argS_some, rt_ad, nx_ad, isN_none, isN_tup, notN_none, notN_tup, aNx, aRet, aIf, aSet, aAug, aDrop, aNever, aC, aBin, aBinR, aUn, aTst, aChain, aNot, aAnd, aOr, aIfE, aAndV, aOrV, aNotV, aNil, aCons, aTup, aLst, aCall1, aCallD, aIx, aApp, aExt, aSetIx, aTru, sLen, sAny, sAll, sSum, sList, sTuple, fI, fC, fB, aSeqI, aRng1, aFor, aFrz, gN, aUnp, aLc, aYes, aCall, aRep, aRgT, turn, wipeA, br_true, br_false, List.map_nil, List.map_cons, List.nil_append, List.cons_append, List.replicate, List.getElem?_cons_zero, List.getElem?_cons_succ, List.set_cons_zero, List.set_cons_succ, List.length_cons, List.length_nil, enS_list, enS_tup, aNotT, aEnum, aRev, aAugD, sLt_int, sLt_ints, sRepT_tup, aCall2, sIsB_eq, sNotB_eq, aDnew, aSortD, ownD_own, aSda, aTupD, datAt_dat, sAllD, aSortSetI, isN_int, notN_int, sIn_int, sNotIn_int, sEq_int, sNe_int, sEq_bool, sNe_bool, sEq_str, aSeq]
        refine lc_map (enc := PyData.int) (fun c => .bool (decide ((0 : Int) ≤ c) && decide (c < (rows[0].length : Int)))) trivial (by simp [Ab.freeOf]) (small_len (by omega)) (fun c hc Ka Ks ka => ?_) ?_
        · have hc2 := hT.krng c hc
          have b1 : decide ((0 : Int) ≤ c) = true := decide_eq_true hc2.1
          simp only [b1, aName_eq, nm_dat, nm_own, dd_dat, dd_own, bb_bool, arg_dat, arg_own, arg_ali, das_nil, das_dat, cont_list, cont_tup, cont_own, cont_ali, contS_own, ownL_own, ownO_own, stor_dat, stor_own, iD_int, ii_int, i1_int, sAddU_int, sAddU_tup, truS_none, truS_bool, truS_int, truS_list, truS_tup, truS_ali, srcOf_list, srcOf_tup, srcOf_ali, Ab.got_some, gZ_nil, gC_cons, gT_tup, onlyDat_dat, notAli_dat, notAli_own, getO_some, fin_none, fin_some, finO_own, callA_nil, callA_dat, callA_ali, argS_none, argS_some, rt_ad, nx_ad, isN_none, isN_tup, notN_none, notN_tup, aNx, aRet, aIf, aSet, aAug, aDrop, aNever, aC, aBin, aBinR, aUn, aTst, aChain, aNot, aAnd, aOr, aIfE, aAndV, aOrV, aNotV, aNil, aCons, aTup, aLst, aCall1, aCallD, aIx, aApp, aExt, aSetIx, aTru, sLen, sAny, sAll, sSum, sList, sTuple, fI, fC, fB, aSeqI, aRng1, aFor, aFrz, gN, aUnp, aLc, aYes, aCall, aRep, aRgT, turn, wipeA, br_true, br_false, List.map_nil, List.map_cons, List.nil_append, List.cons_append, List.replicate, List.getElem?_cons_zero, List.getElem?_cons_succ, List.set_cons_zero, List.set_cons_succ, List.length_cons, List.length_nil, enS_list, enS_tup, aNotT, aEnum, aRev, aAugD, sLt_int, sLt_ints, sRepT_tup, aCall2, sIsB_eq, sNotB_eq, aDnew, aSortD, ownD_own, aSda, aTupD, datAt_dat, sAllD, aSortSetI, isN_int, notN_int, sIn_int, sNotIn_int, sEq_int, sNe_int, sEq_bool, sNe_bool, sEq_str, aSeq]
          rw [b1, Bool.true_and] at ka
          exact ka
        · have a3 : (key.all fun c => decide ((0 : Int) ≤ c) && decide (c < (rows[0].length : Int))) = true := all_true fun c hc => by
            have hc2 := hT.krng c hc
            rw [Bool.and_eq_true]
            exact ⟨decide_eq_true hc2.1, decide_eq_true (by rw [hw]; exact hc2.2)⟩
          simp only [bools_map, all_map, a3, Bool.not_true, List.length_map, aName_eq, nm_dat, nm_own, dd_dat, dd_own, bb_bool, arg_dat, arg_own, arg_ali, das_nil, das_dat, cont_list, cont_tup, cont_own, cont_ali, contS_own, ownL_own, ownO_own, stor_dat, stor_own, iD_int, ii_int, i1_int, sAddU_int, sAddU_tup, truS_none, truS_bool, truS_int, truS_list, truS_tup, truS_ali, srcOf_list, srcOf_tup, srcOf_ali, Ab.got_some, gZ_nil, gC_cons, gT_tup, onlyDat_dat, notAli_dat, notAli_own, getO_some, fin_none, fin_some, finO_own, callA_nil, callA_dat, callA_ali, argS_none, argS_some, rt_ad, nx_ad, isN_none, isN_tup, notN_none, notN_tup, aNx, aRet, aIf, aSet, aAug, aDrop, aNever, aC, aBin, aBinR, aUn, aTst, aChain, aNot, aAnd, aOr, aIfE, aAndV, aOrV, aNotV, aNil, aCons, aTup, aLst, aCall1, aCallD, aIx, aApp, aExt, aSetIx, aTru, sLen, sAny, sAll, sSum, sList, sTuple, fI, fC, fB, aSeqI, aRng1, aFor, aFrz, gN, aUnp, aLc, aYes, aCall, aRep, aRgT, turn, wipeA, br_true, br_false, List.map_nil, List.map_cons, List.nil_append, List.cons_append, List.replicate, List.getElem?_cons_zero, List.getElem?_cons_succ, List.set_cons_zero, List.set_cons_succ, List.length_cons, List.length_nil, enS_list, enS_tup, aNotT, aEnum, aRev, aAugD, sLt_int, sLt_ints, sRepT_tup, aCall2, sIsB_eq, sNotB_eq, aDnew, aSortD, ownD_own, aSda, aTupD, datAt_dat, sAllD, aSortSetI, isN_int, notN_int, sIn_int, sNotIn_int, sEq_int, sNe_int, sEq_bool, sNe_bool, sEq_str, aSeq]
          refine ⟨trivial, by omega, by omega, ?_⟩
          rw [rangeD0]
          refine lc_map (enc := fun (q : Nat) => PyData.int (q : Int)) (fun k => .bool (decide (key.getD k 0 < key.getD (k + 1) 0))) trivial (by simp [Ab.freeOf]) (small_len (by simp; omega)) (fun x hx Ka Ks ka => ?_) ?_
          · have hx : x + 1 < key.length := by
              have := List.mem_range.mp hx
              omega
            have e3 : ((x : Int) + 1) = ((x + 1 : Nat) : Int) := by omega
            simp only [aName_eq, nm_dat, nm_own, dd_dat, dd_own, bb_bool, arg_dat, arg_own, arg_ali, das_nil, das_dat, cont_list, cont_tup, cont_own, cont_ali, contS_own, ownL_own, ownO_own, stor_dat, stor_own, iD_int, ii_int, i1_int, sAddU_int, sAddU_tup, truS_none, truS_bool, truS_int, truS_list, truS_tup, truS_ali, srcOf_list, srcOf_tup, srcOf_ali, Ab.got_some, gZ_nil, gC_cons, gT_tup, onlyDat_dat, notAli_dat, notAli_own, getO_some, fin_none, fin_some, finO_own, callA_nil, callA_dat, callA_ali, argS_none, argS_some, rt_ad, nx_ad, isN_none, isN_tup, notN_none, notN_tup, aNx, aRet, aIf, aSet, aAug, aDrop, aNever, aC, aBin, aBinR, aUn, aTst, aChain, aNot, aAnd, aOr, aIfE, aAndV, aOrV, aNotV, aNil, aCons, aTup, aLst, aCall1, aCallD, aIx, aApp, aExt, aSetIx, aTru, sLen, sAny, sAll, sSum, sList, sTuple, fI, fC, fB, aSeqI, aRng1, aFor, aFrz, gN, aUnp, aLc, aYes, aCall, aRep, aRgT, turn, wipeA, br_true, br_false, List.map_nil, List.map_cons, List.nil_append, List.cons_append, List.replicate, List.getElem?_cons_zero, List.getElem?_cons_succ, List.set_cons_zero, List.set_cons_succ, List.length_cons, List.length_nil, enS_list, enS_tup, aNotT, aEnum, aRev, aAugD, sLt_int, sLt_ints, sRepT_tup, aCall2, sIsB_eq, sNotB_eq, aDnew, aSortD, ownD_own, aSda, aTupD, datAt_dat, sAllD, aSortSetI, isN_int, notN_int, sIn_int, sNotIn_int, sEq_int, sNe_int, sEq_bool, sNe_bool, sEq_str, aSeq]
            rw [e3, atI_ints hx, atI_ints (by omega)]
            simp only [aName_eq, nm_dat, nm_own, dd_dat, dd_own, bb_bool, arg_dat, arg_own, arg_ali, das_nil, das_dat, cont_list, cont_tup, cont_own, cont_ali, contS_own, ownL_own, ownO_own, stor_dat, stor_own, iD_int, ii_int, i1_int, sAddU_int, sAddU_tup, truS_none, truS_bool, truS_int, truS_list, truS_tup, truS_ali, srcOf_list, srcOf_tup, srcOf_ali, Ab.got_some, gZ_nil, gC_cons, gT_tup, onlyDat_dat, notAli_dat, notAli_own, getO_some, fin_none, fin_some, finO_own, callA_nil, callA_dat, callA_ali, argS_none, argS_some, rt_ad, nx_ad, isN_none, isN_tup, notN_none, notN_tup, aNx, aRet, aIf, aSet, aAug, aDrop, aNever, aC, aBin, aBinR, aUn, aTst, aChain, aNot, aAnd, aOr, aIfE, aAndV, aOrV, aNotV, aNil, aCons, aTup, aLst, aCall1, aCallD, aIx, aApp, aExt, aSetIx, aTru, sLen, sAny, sAll, sSum, sList, sTuple, fI, fC, fB, aSeqI, aRng1, aFor, aFrz, gN, aUnp, aLc, aYes, aCall, aRep, aRgT, turn, wipeA, br_true, br_false, List.map_nil, List.map_cons, List.nil_append, List.cons_append, List.replicate, List.getElem?_cons_zero, List.getElem?_cons_succ, List.set_cons_zero, List.set_cons_succ, List.length_cons, List.length_nil, enS_list, enS_tup, aNotT, aEnum, aRev, aAugD, sLt_int, sLt_ints, sRepT_tup, aCall2, sIsB_eq, sNotB_eq, aDnew, aSortD, ownD_own, aSda, aTupD, datAt_dat, sAllD, aSortSetI, isN_int, notN_int, sIn_int, sNotIn_int, sEq_int, sNe_int, sEq_bool, sNe_bool, sEq_str, aSeq]
            exact ka
          · have a4 : ((List.range ((key.length : Int) - 1).toNat).all fun k => decide (key.getD k 0 < key.getD (k + 1) 0)) = true := all_true fun x hx => by
              have hx : x + 1 < key.length := by
                have := List.mem_range.mp hx
                omega
              rw [decide_eq_true_eq, List.getD_eq_getElem?_getD, List.getD_eq_getElem?_getD, List.getElem?_eq_getElem hx, List.getElem?_eq_getElem (by omega : x < key.length)]
              exact List.pairwise_iff_getElem.mp hT.kasc x (x + 1) (by omega) hx (by omega)
            simp only [bools_map, all_map, a4, Bool.not_true, aName_eq, nm_dat, nm_own, dd_dat, dd_own, bb_bool, arg_dat, arg_own, arg_ali, das_nil, das_dat, cont_list, cont_tup, cont_own, cont_ali, contS_own, ownL_own, ownO_own, stor_dat, stor_own, iD_int, ii_int, i1_int, sAddU_int, sAddU_tup, truS_none, truS_bool, truS_int, truS_list, truS_tup, truS_ali, srcOf_list, srcOf_tup, srcOf_ali, Ab.got_some, gZ_nil, gC_cons, gT_tup, onlyDat_dat, notAli_dat, notAli_own, getO_some, fin_none, fin_some, finO_own, callA_nil, callA_dat, callA_ali, argS_none, argS_some, rt_ad, nx_ad, isN_none, isN_tup, notN_none, notN_tup, aNx, aRet, aIf, aSet, aAug, aDrop, aNever, aC, aBin, aBinR, aUn, aTst, aChain, aNot, aAnd, aOr, aIfE, aAndV, aOrV, aNotV, aNil, aCons, aTup, aLst, aCall1, aCallD, aIx, aApp, aExt, aSetIx, aTru, sLen, sAny, sAll, sSum, sList, sTuple, fI, fC, fB, aSeqI, aRng1, aFor, aFrz, gN, aUnp, aLc, aYes, aCall, aRep, aRgT, turn, wipeA, br_true, br_false, List.map_nil, List.map_cons, List.nil_append, List.cons_append, List.replicate, List.getElem?_cons_zero, List.getElem?_cons_succ, List.set_cons_zero, List.set_cons_succ, List.length_cons, List.length_nil, enS_list, enS_tup, aNotT, aEnum, aRev, aAugD, sLt_int, sLt_ints, sRepT_tup, aCall2, sIsB_eq, sNotB_eq, aDnew, aSortD, ownD_own, aSda, aTupD, datAt_dat, sAllD, aSortSetI, isN_int, notN_int, sIn_int, sNotIn_int, sEq_int, sNe_int, sEq_bool, sNe_bool, sEq_str, aSeq]
            exact ⟨trivial, k⟩
theorem ok_groups_of (D : Defs K mg) : FnOk P w K mg base CX0 1 D.f_groups_of D.fd_groups_of ["rows", "key"] (toSp K sp_groups_of) := by
  refine ok_def D.F_groups_of sc_groups_of (fun oo ds Kc h => ?_) (fun cdv A outer s H E hr =>
      (ss_cons (s_set (ps_set (i := 2) sc_groups_of.nd rfl (.inr rfl) e_dnew))
      (ss_cons (s_for PassesOwn.never rfl (i_seq (e_name (pv 0))) (g_name (pg_name (i := 3) sc_groups_of.nd rfl (.inr rfl))) (ss_one (s_sdaC hr.units D.b_tuple (pv 2) (e_lc (own := [("column", 4)]) rfl sc_groups_of.nd (i_seq (e_name (pv 1))) (blkOk_by (by kernel_rfl)) (fun _ _ _ _ _ => (g_name (pg_name (i := 4) sc_groups_of.nd rfl (by first | exact Or.inl rfl | exact Or.inr rfl)))) (fun _ _ _ _ _ => ts_nil) (fun _ _ _ _ _ => (e_ix (e_name (pv 3)) (e_name (pv 4))))) (pv 3))))
      (ss_one (s_ret (e_lc (own := [("name", 5)]) rfl sc_groups_of.nd (i_seq (e_sortDT hr.units D.b_sorted (pv 2))) (blkOk_by (by kernel_rfl)) (fun _ _ _ _ _ => (g_name (pg_name (i := 5) sc_groups_of.nd rfl (by first | exact Or.inl rfl | exact Or.inr rfl)))) (fun _ _ _ _ _ => ts_nil) (fun _ _ _ _ _ => (e_tupD hr.units D.b_tuple (pv 2) (e_name (pv 5)))))))))) (fun oo ds Kc h => ?_)
  · obtain ⟨wd, rows, key, rfl, rfl, _⟩ := h
    rfl
  · obtain ⟨wd, rows, key, rfl, rfl, hT, k⟩ := h
    have h1 := hT.few
    have h2 := hT.klen
    have h3 := hT.w6
    simp only [aName_eq, nm_dat, nm_own, dd_dat, dd_own, bb_bool, arg_dat, arg_own, arg_ali, das_nil, das_dat, cont_list, cont_tup, cont_own, cont_ali, contS_own, ownL_own, ownO_own, stor_dat, stor_own, iD_int, ii_int, i1_int, sAddU_int, sAddU_tup, truS_none, truS_bool, truS_int, truS_list, truS_tup, truS_ali, srcOf_list, srcOf_tup, srcOf_ali, Ab.got_some, gZ_nil, gC_cons, gT_tup, onlyDat_dat, notAli_dat, notAli_own, getO_some, fin_none, fin_some, finO_own, callA_nil, callA_dat, callA_ali, argS_none, argS_some, rt_ad, nx_ad, isN_none, isN_tup, notN_none, notN_tup, aNx, aRet, aIf, aSet, aAug, aDrop, aNever, aC, aBin, aBinR, aUn, aTst, aChain, aNot, aAnd, aOr, aIfE, aAndV, aOrV, aNotV, aNil, aCons, aTup, aLst, aCall1, aCallD, aIx, aApp, aExt, aSetIx, aTru, sLen, sAny, sAll, sSum, sList, sTuple, fI, fC, fB, aSeqI, aRng1, aFor, aFrz, gN, aUnp, aLc, aYes, aCall, aRep, aRgT, turn, wipeA, br_true, br_false, List.map_nil, List.map_cons, List.nil_append, List.cons_append, List.replicate, List.getElem?_cons_zero, List.getElem?_cons_succ, List.set_cons_zero, List.set_cons_succ, List.length_cons, List.length_nil, enS_list, enS_tup, aNotT, aEnum, aRev, aAugD, sLt_int, sLt_ints, sRepT_tup, aCall2, sIsB_eq, sNotB_eq, aDnew, aSortD, ownD_own, aSda, aTupD, datAt_dat, sAllD, aSortSetI, isN_int, notN_int, sIn_int, sNotIn_int, sEq_int, sNe_int, sEq_bool, sNe_bool, sEq_str, aSeq]
    refine ⟨trivial, fun _ => trivial, ?_⟩
    refine for_inv (enc := tI) (xs := rows) (fun pre ρ => ∃ x3, ρ = [some (.dat (eR rows)), some (.dat (tI key)), some (.own none (.dls (dK pre key))), x3, none, none]) ⟨none, rfl⟩ ?_ ?_
    · rintro pre r post e ρ ⟨x3, rfl⟩ Kn kn
      have hr : r.length = wd := hT.wid r (by rw [e]; simp)
      have hz : pre.length ≤ 40 := by
        have g := congrArg List.length e
        rw [List.length_append, List.length_cons] at g
        omega
      obtain ⟨d1, d2⟩ := dK_size key pre
      simp only [tI, aName_eq, nm_dat, nm_own, dd_dat, dd_own, bb_bool, arg_dat, arg_own, arg_ali, das_nil, das_dat, cont_list, cont_tup, cont_own, cont_ali, contS_own, ownL_own, ownO_own, stor_dat, stor_own, iD_int, ii_int, i1_int, sAddU_int, sAddU_tup, truS_none, truS_bool, truS_int, truS_list, truS_tup, truS_ali, srcOf_list, srcOf_tup, srcOf_ali, Ab.got_some, gZ_nil, gC_cons, gT_tup, onlyDat_dat, notAli_dat, notAli_own, getO_some, fin_none, fin_some, finO_own, callA_nil, callA_dat, callA_ali, argS_none, argS_some, rt_ad, nx_ad, isN_none, isN_tup, notN_none, notN_tup, aNx, aRet, aIf, aSet, aAug, aDrop, aNever, aC, aBin, aBinR, aUn, aTst, aChain, aNot, aAnd, aOr, aIfE, aAndV, aOrV, aNotV, aNil, aCons, aTup, aLst, aCall1, aCallD, aIx, aApp, aExt, aSetIx, aTru, sLen, sAny, sAll, sSum, sList, sTuple, fI, fC, fB, aSeqI, aRng1, aFor, aFrz, gN, aUnp, aLc, aYes, aCall, aRep, aRgT, turn, wipeA, br_true, br_false, List.map_nil, List.map_cons, List.nil_append, List.cons_append, List.replicate, List.getElem?_cons_zero, List.getElem?_cons_succ, List.set_cons_zero, List.set_cons_succ, List.length_cons, List.length_nil, enS_list, enS_tup, aNotT, aEnum, aRev, aAugD, sLt_int, sLt_ints, sRepT_tup, aCall2, sIsB_eq, sNotB_eq, aDnew, aSortD, ownD_own, aSda, aTupD, datAt_dat, sAllD, aSortSetI, isN_int, notN_int, sIn_int, sNotIn_int, sEq_int, sNe_int, sEq_bool, sNe_bool, sEq_str, aSeq]
      refine lc_map (enc := PyData.int) (fun c => .int (r.getD c.toNat 0)) trivial (by simp [Ab.freeOf]) (small_len (by omega)) (fun c hc Ka Ks ka => ?_) ?_
      · have hc2 := hT.krng c hc
        simp only [aName_eq, nm_dat, nm_own, dd_dat, dd_own, bb_bool, arg_dat, arg_own, arg_ali, das_nil, das_dat, cont_list, cont_tup, cont_own, cont_ali, contS_own, ownL_own, ownO_own, stor_dat, stor_own, iD_int, ii_int, i1_int, sAddU_int, sAddU_tup, truS_none, truS_bool, truS_int, truS_list, truS_tup, truS_ali, srcOf_list, srcOf_tup, srcOf_ali, Ab.got_some, gZ_nil, gC_cons, gT_tup, onlyDat_dat, notAli_dat, notAli_own, getO_some, fin_none, fin_some, finO_own, callA_nil, callA_dat, callA_ali, argS_none, argS_some, rt_ad, nx_ad, isN_none, isN_tup, notN_none, notN_tup, aNx, aRet, aIf, aSet, aAug, aDrop, aNever, aC, aBin, aBinR, aUn, aTst, aChain, aNot, aAnd, aOr, aIfE, aAndV, aOrV, aNotV, aNil, aCons, aTup, aLst, aCall1, aCallD, aIx, aApp, aExt, aSetIx, aTru, sLen, sAny, sAll, sSum, sList, sTuple, fI, fC, fB, aSeqI, aRng1, aFor, aFrz, gN, aUnp, aLc, aYes, aCall, aRep, aRgT, turn, wipeA, br_true, br_false, List.map_nil, List.map_cons, List.nil_append, List.cons_append, List.replicate, List.getElem?_cons_zero, List.getElem?_cons_succ, List.set_cons_zero, List.set_cons_succ, List.length_cons, List.length_nil, enS_list, enS_tup, aNotT, aEnum, aRev, aAugD, sLt_int, sLt_ints, sRepT_tup, aCall2, sIsB_eq, sNotB_eq, aDnew, aSortD, ownD_own, aSda, aTupD, datAt_dat, sAllD, aSortSetI, isN_int, notN_int, sIn_int, sNotIn_int, sEq_int, sNe_int, sEq_bool, sNe_bool, sEq_str, aSeq]
        rw [atI_nn hc2.1 (by omega)]
        exact ka
      · simp only [aName_eq, nm_dat, nm_own, dd_dat, dd_own, bb_bool, arg_dat, arg_own, arg_ali, das_nil, das_dat, cont_list, cont_tup, cont_own, cont_ali, contS_own, ownL_own, ownO_own, stor_dat, stor_own, iD_int, ii_int, i1_int, sAddU_int, sAddU_tup, truS_none, truS_bool, truS_int, truS_list, truS_tup, truS_ali, srcOf_list, srcOf_tup, srcOf_ali, Ab.got_some, gZ_nil, gC_cons, gT_tup, onlyDat_dat, notAli_dat, notAli_own, getO_some, fin_none, fin_some, finO_own, callA_nil, callA_dat, callA_ali, argS_none, argS_some, rt_ad, nx_ad, isN_none, isN_tup, notN_none, notN_tup, aNx, aRet, aIf, aSet, aAug, aDrop, aNever, aC, aBin, aBinR, aUn, aTst, aChain, aNot, aAnd, aOr, aIfE, aAndV, aOrV, aNotV, aNil, aCons, aTup, aLst, aCall1, aCallD, aIx, aApp, aExt, aSetIx, aTru, sLen, sAny, sAll, sSum, sList, sTuple, fI, fC, fB, aSeqI, aRng1, aFor, aFrz, gN, aUnp, aLc, aYes, aCall, aRep, aRgT, turn, wipeA, br_true, br_false, List.map_nil, List.map_cons, List.nil_append, List.cons_append, List.replicate, List.getElem?_cons_zero, List.getElem?_cons_succ, List.set_cons_zero, List.set_cons_succ, List.length_cons, List.length_nil, enS_list, enS_tup, aNotT, aEnum, aRev, aAugD, sLt_int, sLt_ints, sRepT_tup, aCall2, sIsB_eq, sNotB_eq, aDnew, aSortD, ownD_own, aSda, aTupD, datAt_dat, sAllD, aSortSetI, isN_int, notN_int, sIn_int, sNotIn_int, sEq_int, sNe_int, sEq_bool, sNe_bool, sEq_str, aSeq]
        refine ⟨trivial, kf key r, by unfold kf; rw [List.map_map]; rfl, ⟨small_len (by omega), fun x hx => small_len (by have := d2 x hx; omega)⟩, kn _ ⟨some (.dat (tI r)), ?_⟩⟩
        rw [dK_snoc]
    · rintro ρ ⟨x3, rfl⟩
      obtain ⟨d1, d2⟩ := dK_size key rows
      simp only [aName_eq, nm_dat, nm_own, dd_dat, dd_own, bb_bool, arg_dat, arg_own, arg_ali, das_nil, das_dat, cont_list, cont_tup, cont_own, cont_ali, contS_own, ownL_own, ownO_own, stor_dat, stor_own, iD_int, ii_int, i1_int, sAddU_int, sAddU_tup, truS_none, truS_bool, truS_int, truS_list, truS_tup, truS_ali, srcOf_list, srcOf_tup, srcOf_ali, Ab.got_some, gZ_nil, gC_cons, gT_tup, onlyDat_dat, notAli_dat, notAli_own, getO_some, fin_none, fin_some, finO_own, callA_nil, callA_dat, callA_ali, argS_none, argS_some, rt_ad, nx_ad, isN_none, isN_tup, notN_none, notN_tup, aNx, aRet, aIf, aSet, aAug, aDrop, aNever, aC, aBin, aBinR, aUn, aTst, aChain, aNot, aAnd, aOr, aIfE, aAndV, aOrV, aNotV, aNil, aCons, aTup, aLst, aCall1, aCallD, aIx, aApp, aExt, aSetIx, aTru, sLen, sAny, sAll, sSum, sList, sTuple, fI, fC, fB, aSeqI, aRng1, aFor, aFrz, gN, aUnp, aLc, aYes, aCall, aRep, aRgT, turn, wipeA, br_true, br_false, List.map_nil, List.map_cons, List.nil_append, List.cons_append, List.replicate, List.getElem?_cons_zero, List.getElem?_cons_succ, List.set_cons_zero, List.set_cons_succ, List.length_cons, List.length_nil, enS_list, enS_tup, aNotT, aEnum, aRev, aAugD, sLt_int, sLt_ints, sRepT_tup, aCall2, sIsB_eq, sNotB_eq, aDnew, aSortD, ownD_own, aSda, aTupD, datAt_dat, sAllD, aSortSetI, isN_int, notN_int, sIn_int, sNotIn_int, sEq_int, sNe_int, sEq_bool, sNe_bool, sEq_str, aSeq]
      refine ⟨by omega, ?_, fun ks1 pm pw => ?_⟩
      · by_cases hk : key = []
        · right
          have nd := dK_nodup key rows
          have : (keysK (dK rows key)).length ≤ [([] : Row)].length := nd.length_le_of_subset fun x hx => by
            obtain ⟨r, _, e⟩ := (dK_mem key rows x).mp hx
            rw [← e, hk]
            exact List.mem_singleton.mpr rfl
          rw [List.length_map] at this
          exact this
        · left
          intro x hx e
          have hx2 : x.1 ∈ keysK (dK rows key) := List.mem_map.mpr ⟨x, hx, rfl⟩
          obtain ⟨r, _, e2⟩ := (dK_mem key rows x.1).mp hx2
          have := kf_len key r
          rw [e2, e] at this
          exact hk (List.eq_nil_of_length_eq_zero this.symm)
      · have eks := gk_uniq pm pw
        subst eks
        have hgl : (gk rows key).length ≤ 40 := by
          rw [pm.length_eq, List.length_map]
          omega
        refine lc_map (enc := tI) (fun k => eR (grp rows key k)) trivial (by simp [Ab.freeOf]) (small_len (by omega)) (fun k hk Ka Ks ka => ?_) ?_
        · simp only [aName_eq, nm_dat, nm_own, dd_dat, dd_own, bb_bool, arg_dat, arg_own, arg_ali, das_nil, das_dat, cont_list, cont_tup, cont_own, cont_ali, contS_own, ownL_own, ownO_own, stor_dat, stor_own, iD_int, ii_int, i1_int, sAddU_int, sAddU_tup, truS_none, truS_bool, truS_int, truS_list, truS_tup, truS_ali, srcOf_list, srcOf_tup, srcOf_ali, Ab.got_some, gZ_nil, gC_cons, gT_tup, onlyDat_dat, notAli_dat, notAli_own, getO_some, fin_none, fin_some, finO_own, callA_nil, callA_dat, callA_ali, argS_none, argS_some, rt_ad, nx_ad, isN_none, isN_tup, notN_none, notN_tup, aNx, aRet, aIf, aSet, aAug, aDrop, aNever, aC, aBin, aBinR, aUn, aTst, aChain, aNot, aAnd, aOr, aIfE, aAndV, aOrV, aNotV, aNil, aCons, aTup, aLst, aCall1, aCallD, aIx, aApp, aExt, aSetIx, aTru, sLen, sAny, sAll, sSum, sList, sTuple, fI, fC, fB, aSeqI, aRng1, aFor, aFrz, gN, aUnp, aLc, aYes, aCall, aRep, aRgT, turn, wipeA, br_true, br_false, List.map_nil, List.map_cons, List.nil_append, List.cons_append, List.replicate, List.getElem?_cons_zero, List.getElem?_cons_succ, List.set_cons_zero, List.set_cons_succ, List.length_cons, List.length_nil, enS_list, enS_tup, aNotT, aEnum, aRev, aAugD, sLt_int, sLt_ints, sRepT_tup, aCall2, sIsB_eq, sNotB_eq, aDnew, aSortD, ownD_own, aSda, aTupD, datAt_dat, sAllD, aSortSetI, isN_int, notN_int, sIn_int, sNotIn_int, sEq_int, sNe_int, sEq_bool, sNe_bool, sEq_str, aSeq]
          have hk2 : k ∈ keysK (dK rows key) := by
            rw [dK_mem]
            exact gk_mem.mp hk
          exact ⟨k, rfl, _, dK_some hk2, ka⟩
        · have e : (gk rows key).map (fun k => eR (grp rows key k)) = (groupsF rows key).map eR := by
            unfold groupsF
            rw [List.map_map]
            rfl
          rw [e]
          exact k
theorem ok_fits (D : Defs K mg) : FnOk P w K mg base CX0 1 D.f_fits D.fd_fits ["question", "row"] (toSp K sp_fits) := by
  refine ok_def D.F_fits sc_fits (fun oo ds Kc h => ?_) (fun cdv A outer s H E hr =>
      (ss_one (s_ret (e_callB (cr_all rfl) dc_all (by rfl) D.b_all boot_all (e_lc (own := [("k", 2), ("wanted", 3)]) rfl sc_fits.nd (i_enum (by rfl) D.b_enumerate (e_name (pv 0))) (blkOk_by (by kernel_rfl)) (fun _ _ _ _ _ => (g_tup (pg_tup (n := 2) rfl (gs_cons (g_name (pg_name (i := 2) sc_fits.nd rfl (by first | exact Or.inl rfl | exact Or.inr rfl))) (gs_cons (g_name (pg_name (i := 3) sc_fits.nd rfl (by first | exact Or.inl rfl | exact Or.inr rfl))) gs_nil))))) (fun _ _ _ _ _ => ts_nil) (fun _ _ _ _ _ => (e_or (e_cmp op_isN dr_isN (e_name (pv 3)) e_non (nomark _)) (e_one (e_cmp (op_eqP hr.units) dr_eq (e_ix (e_name (pv 1)) (e_name (pv 2))) (e_name (pv 3)) (nomark _)))))))))) (fun oo ds Kc h => ?_)
  · obtain ⟨q, r, rfl, rfl, _⟩ := h
    rfl
  · obtain ⟨q, r, rfl, rfl, h1, h2, k⟩ := h
    have hql : (enumL 0 q).length ≤ 6 := by rw [enumL_len]; omega
    simp only [aName_eq, nm_dat, nm_own, dd_dat, dd_own, bb_bool, arg_dat, arg_own, arg_ali, das_nil, das_dat, cont_list, cont_tup, cont_own, cont_ali, contS_own, ownL_own, ownO_own, stor_dat, stor_own, iD_int, ii_int, i1_int, sAddU_int, sAddU_tup, truS_none, truS_bool, truS_int, truS_list, truS_tup, truS_ali, srcOf_list, srcOf_tup, srcOf_ali, Ab.got_some, gZ_nil, gC_cons, gT_tup, onlyDat_dat, notAli_dat, notAli_own, getO_some, fin_none, fin_some, finO_own, callA_nil, callA_dat, callA_ali, argS_none, argS_some, rt_ad, nx_ad, isN_none, isN_tup, notN_none, notN_tup, aNx, aRet, aIf, aSet, aAug, aDrop, aNever, aC, aBin, aBinR, aUn, aTst, aChain, aNot, aAnd, aOr, aIfE, aAndV, aOrV, aNotV, aNil, aCons, aTup, aLst, aCall1, aCallD, aIx, aApp, aExt, aSetIx, aTru, sLen, sAny, sAll, sSum, sList, sTuple, fI, fC, fB, aSeqI, aRng1, aFor, aFrz, gN, aUnp, aLc, aYes, aCall, aRep, aRgT, turn, wipeA, br_true, br_false, List.map_nil, List.map_cons, List.nil_append, List.cons_append, List.replicate, List.getElem?_cons_zero, List.getElem?_cons_succ, List.set_cons_zero, List.set_cons_succ, List.length_cons, List.length_nil, enS_list, enS_tup, aNotT, aEnum, aRev, aAugD, sLt_int, sLt_ints, sRepT_tup, aCall2, sIsB_eq, sNotB_eq, aDnew, aSortD, ownD_own, aSda, aTupD, datAt_dat, sAllD, aSortSetI, isN_int, notN_int, sIn_int, sNotIn_int, sEq_int, sNe_int, sEq_bool, sNe_bool, sEq_str, aSeq]
    rw [enumD_map]
    refine lc_map (enc := fun (p : Nat × Option Int) => PyData.tuple [.int (p.1 : Nat), oI p.2]) (fun p => .bool (fit1 r p)) trivial (by simp [Ab.freeOf]) (small_len (by omega)) (fun p hp Ka Ks ka => ?_) ?_
    · obtain ⟨i, w⟩ := p
      obtain ⟨_, g2⟩ := enumL_mem hp
      have hi : i < r.length := by
        have := (List.getElem?_eq_some_iff.mp g2).1
        simp at this
        omega
      cases w with
      | none =>
        simp only [oI, aName_eq, nm_dat, nm_own, dd_dat, dd_own, bb_bool, arg_dat, arg_own, arg_ali, das_nil, das_dat, cont_list, cont_tup, cont_own, cont_ali, contS_own, ownL_own, ownO_own, stor_dat, stor_own, iD_int, ii_int, i1_int, sAddU_int, sAddU_tup, truS_none, truS_bool, truS_int, truS_list, truS_tup, truS_ali, srcOf_list, srcOf_tup, srcOf_ali, Ab.got_some, gZ_nil, gC_cons, gT_tup, onlyDat_dat, notAli_dat, notAli_own, getO_some, fin_none, fin_some, finO_own, callA_nil, callA_dat, callA_ali, argS_none, argS_some, rt_ad, nx_ad, isN_none, isN_tup, notN_none, notN_tup, aNx, aRet, aIf, aSet, aAug, aDrop, aNever, aC, aBin, aBinR, aUn, aTst, aChain, aNot, aAnd, aOr, aIfE, aAndV, aOrV, aNotV, aNil, aCons, aTup, aLst, aCall1, aCallD, aIx, aApp, aExt, aSetIx, aTru, sLen, sAny, sAll, sSum, sList, sTuple, fI, fC, fB, aSeqI, aRng1, aFor, aFrz, gN, aUnp, aLc, aYes, aCall, aRep, aRgT, turn, wipeA, br_true, br_false, List.map_nil, List.map_cons, List.nil_append, List.cons_append, List.replicate, List.getElem?_cons_zero, List.getElem?_cons_succ, List.set_cons_zero, List.set_cons_succ, List.length_cons, List.length_nil, enS_list, enS_tup, aNotT, aEnum, aRev, aAugD, sLt_int, sLt_ints, sRepT_tup, aCall2, sIsB_eq, sNotB_eq, aDnew, aSortD, ownD_own, aSda, aTupD, datAt_dat, sAllD, aSortSetI, isN_int, notN_int, sIn_int, sNotIn_int, sEq_int, sNe_int, sEq_bool, sNe_bool, sEq_str, aSeq]
        exact ⟨trivial, ka⟩
      | some w =>
        simp only [oI, tI, aName_eq, nm_dat, nm_own, dd_dat, dd_own, bb_bool, arg_dat, arg_own, arg_ali, das_nil, das_dat, cont_list, cont_tup, cont_own, cont_ali, contS_own, ownL_own, ownO_own, stor_dat, stor_own, iD_int, ii_int, i1_int, sAddU_int, sAddU_tup, truS_none, truS_bool, truS_int, truS_list, truS_tup, truS_ali, srcOf_list, srcOf_tup, srcOf_ali, Ab.got_some, gZ_nil, gC_cons, gT_tup, onlyDat_dat, notAli_dat, notAli_own, getO_some, fin_none, fin_some, finO_own, callA_nil, callA_dat, callA_ali, argS_none, argS_some, rt_ad, nx_ad, isN_none, isN_tup, notN_none, notN_tup, aNx, aRet, aIf, aSet, aAug, aDrop, aNever, aC, aBin, aBinR, aUn, aTst, aChain, aNot, aAnd, aOr, aIfE, aAndV, aOrV, aNotV, aNil, aCons, aTup, aLst, aCall1, aCallD, aIx, aApp, aExt, aSetIx, aTru, sLen, sAny, sAll, sSum, sList, sTuple, fI, fC, fB, aSeqI, aRng1, aFor, aFrz, gN, aUnp, aLc, aYes, aCall, aRep, aRgT, turn, wipeA, br_true, br_false, List.map_nil, List.map_cons, List.nil_append, List.cons_append, List.replicate, List.getElem?_cons_zero, List.getElem?_cons_succ, List.set_cons_zero, List.set_cons_succ, List.length_cons, List.length_nil, enS_list, enS_tup, aNotT, aEnum, aRev, aAugD, sLt_int, sLt_ints, sRepT_tup, aCall2, sIsB_eq, sNotB_eq, aDnew, aSortD, ownD_own, aSda, aTupD, datAt_dat, sAllD, aSortSetI, isN_int, notN_int, sIn_int, sNotIn_int, sEq_int, sNe_int, sEq_bool, sNe_bool, sEq_str, aSeq]
        rw [atI_ints hi]
        simp only [aName_eq, nm_dat, nm_own, dd_dat, dd_own, bb_bool, arg_dat, arg_own, arg_ali, das_nil, das_dat, cont_list, cont_tup, cont_own, cont_ali, contS_own, ownL_own, ownO_own, stor_dat, stor_own, iD_int, ii_int, i1_int, sAddU_int, sAddU_tup, truS_none, truS_bool, truS_int, truS_list, truS_tup, truS_ali, srcOf_list, srcOf_tup, srcOf_ali, Ab.got_some, gZ_nil, gC_cons, gT_tup, onlyDat_dat, notAli_dat, notAli_own, getO_some, fin_none, fin_some, finO_own, callA_nil, callA_dat, callA_ali, argS_none, argS_some, rt_ad, nx_ad, isN_none, isN_tup, notN_none, notN_tup, aNx, aRet, aIf, aSet, aAug, aDrop, aNever, aC, aBin, aBinR, aUn, aTst, aChain, aNot, aAnd, aOr, aIfE, aAndV, aOrV, aNotV, aNil, aCons, aTup, aLst, aCall1, aCallD, aIx, aApp, aExt, aSetIx, aTru, sLen, sAny, sAll, sSum, sList, sTuple, fI, fC, fB, aSeqI, aRng1, aFor, aFrz, gN, aUnp, aLc, aYes, aCall, aRep, aRgT, turn, wipeA, br_true, br_false, List.map_nil, List.map_cons, List.nil_append, List.cons_append, List.replicate, List.getElem?_cons_zero, List.getElem?_cons_succ, List.set_cons_zero, List.set_cons_succ, List.length_cons, List.length_nil, enS_list, enS_tup, aNotT, aEnum, aRev, aAugD, sLt_int, sLt_ints, sRepT_tup, aCall2, sIsB_eq, sNotB_eq, aDnew, aSortD, ownD_own, aSda, aTupD, datAt_dat, sAllD, aSortSetI, isN_int, notN_int, sIn_int, sNotIn_int, sEq_int, sNe_int, sEq_bool, sNe_bool, sEq_str, aSeq]
        exact ⟨trivial, ka⟩
    · simp only [bools_map, all_map, aName_eq, nm_dat, nm_own, dd_dat, dd_own, bb_bool, arg_dat, arg_own, arg_ali, das_nil, das_dat, cont_list, cont_tup, cont_own, cont_ali, contS_own, ownL_own, ownO_own, stor_dat, stor_own, iD_int, ii_int, i1_int, sAddU_int, sAddU_tup, truS_none, truS_bool, truS_int, truS_list, truS_tup, truS_ali, srcOf_list, srcOf_tup, srcOf_ali, Ab.got_some, gZ_nil, gC_cons, gT_tup, onlyDat_dat, notAli_dat, notAli_own, getO_some, fin_none, fin_some, finO_own, callA_nil, callA_dat, callA_ali, argS_none, argS_some, rt_ad, nx_ad, isN_none, isN_tup, notN_none, notN_tup, aNx, aRet, aIf, aSet, aAug, aDrop, aNever, aC, aBin, aBinR, aUn, aTst, aChain, aNot, aAnd, aOr, aIfE, aAndV, aOrV, aNotV, aNil, aCons, aTup, aLst, aCall1, aCallD, aIx, aApp, aExt, aSetIx, aTru, sLen, sAny, sAll, sSum, sList, sTuple, fI, fC, fB, aSeqI, aRng1, aFor, aFrz, gN, aUnp, aLc, aYes, aCall, aRep, aRgT, turn, wipeA, br_true, br_false, List.map_nil, List.map_cons, List.nil_append, List.cons_append, List.replicate, List.getElem?_cons_zero, List.getElem?_cons_succ, List.set_cons_zero, List.set_cons_succ, List.length_cons, List.length_nil, enS_list, enS_tup, aNotT, aEnum, aRev, aAugD, sLt_int, sLt_ints, sRepT_tup, aCall2, sIsB_eq, sNotB_eq, aDnew, aSortD, ownD_own, aSda, aTupD, datAt_dat, sAllD, aSortSetI, isN_int, notN_int, sIn_int, sNotIn_int, sEq_int, sNe_int, sEq_bool, sNe_bool, sEq_str, aSeq]
      exact ⟨trivial, k⟩
end
end K69

set_option maxHeartbeats 4000000
namespace K69
open PySem Ab
theorem gk_len {wd : Nat} {rows : List Row} {key : Row} (hT : OkTab wd rows key) : (gk rows key).length ≤ 40 := by
  have h := (dK_size key rows).1
  have h2 := hT.few
  unfold gk
  rw [List.length_mergeSort, List.length_map]
  omega
theorem groups_len {wd : Nat} {rows : List Row} {key : Row} (hT : OkTab wd rows key) : (groupsF rows key).length ≤ 40 := by
  unfold groupsF
  rw [List.length_map]
  exact gk_len hT
structure OkG (wd : Nat) (rows g : List Row) : Prop where
  ne : g ≠ []
  few : g.length ≤ 40
  sub : g.Sublist rows
  wid : ∀ r ∈ g, r.length = wd
theorem groups_ok {wd : Nat} {rows : List Row} {key : Row} (hT : OkTab wd rows key) : ∀ g ∈ groupsF rows key, OkG wd rows g := fun g hg => by
  unfold groupsF at hg
  obtain ⟨k, hk, rfl⟩ := List.mem_map.mp hg
  obtain ⟨r, hr, e⟩ := gk_mem.mp hk
  have sub : (grp rows key k).Sublist rows := List.filter_sublist
  refine ⟨List.ne_nil_of_mem (List.mem_filter.mpr ⟨hr, decide_eq_true e⟩), ?_, sub, fun r hr => hT.wid r (sub.subset hr)⟩
  have := sub.length_le
  have := hT.few
  omega
def numA (pre : List (List Row)) (n : Int) : Int := pre.foldl (fun m g => m / (g.length : Int)) n
theorem mendR_snoc (g : List Row) : ∀ (pre : List (List Row)) (n : Int), mendR (pre ++ [g]) n = mendR pre n ++ [g.getD (numA pre n % (g.length : Int)).toNat []]
  | [], n => rfl
  | g0 :: pre, n => by
    show g0.getD _ [] :: mendR (pre ++ [g]) (n / (g0.length : Int)) = _
    rw [mendR_snoc g pre]
    rfl
theorem numA_snoc (g : List Row) (pre : List (List Row)) (n : Int) : numA (pre ++ [g]) n = numA pre n / (g.length : Int) := by
  unfold numA
  rw [List.foldl_append]
  rfl
theorem numA_nn : ∀ (pre : List (List Row)) {n : Int}, 0 ≤ n → 0 ≤ numA pre n
  | [], n, h => h
  | g :: pre, n, h => numA_nn pre (Int.ediv_nonneg h (by omega))
theorem mendR_len : ∀ (gs : List (List Row)) (n : Int), (mendR gs n).length = gs.length
  | [], _ => rfl
  | g :: gs, n => by
    show (_ :: mendR gs _).length = _
    rw [List.length_cons, List.length_cons, mendR_len gs]
theorem mendF_len (gs : List (List Row)) (n : Int) : (mendF gs n).length = gs.length := by
  unfold mendF
  rw [List.length_reverse, mendR_len, List.length_reverse]
theorem emod_rng {n : Int} {m : Nat} (h : 0 < m) : 0 ≤ n % (m : Int) ∧ n % (m : Int) < m := ⟨Int.emod_nonneg _ (by omega), Int.emod_lt_of_pos _ (by omega)⟩
theorem mendR_mem : ∀ (gs : List (List Row)) (n : Int), (∀ g ∈ gs, g ≠ []) → ∀ r ∈ mendR gs n, ∃ g ∈ gs, r ∈ g
  | [], _, _, r, h => nomatch h
  | g :: gs, n, hne, r, h => by
    have h : r ∈ g.getD (n % (g.length : Int)).toNat [] :: mendR gs (n / (g.length : Int)) := h
    rcases List.mem_cons.mp h with rfl | h
    · have hl : 0 < g.length := List.length_pos_iff.mpr (hne g List.mem_cons_self)
      have hm := emod_rng (n := n) hl
      refine ⟨g, List.mem_cons_self, ?_⟩
      rw [List.getD_eq_getElem?_getD, List.getElem?_eq_getElem (by omega)]
      exact List.getElem_mem _
    · obtain ⟨g', h1, h2⟩ := mendR_mem gs _ (fun g hg => hne g (List.mem_cons_of_mem _ hg)) r h
      exact ⟨g', List.mem_cons_of_mem _ h1, h2⟩
theorem mendF_mem {gs : List (List Row)} {n : Int} (hne : ∀ g ∈ gs, g ≠ []) {r : Row} (h : r ∈ mendF gs n) : ∃ g ∈ gs, r ∈ g := by
  unfold mendF at h
  obtain ⟨g, h1, h2⟩ := mendR_mem _ _ (fun g hg => hne g (List.mem_reverse.mp hg)) r (List.mem_reverse.mp h)
  exact ⟨g, List.mem_reverse.mp h1, h2⟩
theorem getD_mem {α : Type} {l : List α} {k : Nat} {d : α} (h : k < l.length) : l.getD k d = l[k] := by
  rw [List.getD_eq_getElem?_getD, List.getElem?_eq_getElem h]
  rfl
theorem find_none {α : Type} {f : α → Bool} {pre post : List α} {a : α} (h : ∀ x ∈ pre, f x = false) (ha : f a = true) : (pre ++ a :: post).find? f = some a := by
  rw [List.find?_append, List.find?_eq_none.mpr fun q hq => by simp [h q hq]]
  simp [ha]
theorem enumL_app {α : Type} : ∀ (xs ys : List α) (k : Nat), enumL k (xs ++ ys) = enumL k xs ++ enumL (k + xs.length) ys
  | [], ys, k => rfl
  | x :: xs, ys, k => by
    show (k, x) :: enumL (k + 1) (xs ++ ys) = _
    rw [enumL_app xs ys (k + 1), List.length_cons, show k + 1 + xs.length = k + (xs.length + 1) by omega]
    rfl
theorem enumL_snd {α : Type} : ∀ (xs : List α) (k : Nat), (enumL k xs).map (·.2) = xs
  | [], _ => rfl
  | x :: xs, k => by
    show x :: (enumL (k + 1) xs).map (·.2) = _
    rw [enumL_snd xs]
theorem intsD_ints : ∀ ns : List Int, intsD (ns.map PyData.int) = some ns
  | [] => rfl
  | n :: ns => by
    rw [List.map_cons, intsD, intsD_ints ns]
    rfl
end K69

set_option maxHeartbeats 4000000
namespace K69
open PySem PySem.Spec PyProof.Rows L2 Ab
theorem sIn_row {b : Bool} {x : Row} {ys : List Row} {k : PyData → Prop} (hk : k (.bool (decide (x ∈ ys)))) : sIn (tI x) b (ys.map tI) k := by
  refine sIn_of (α := List Int) (faith_tup faith_int) (n := 1) (fun a => Nat.le_of_eq (depth_tI a)) (by decide) ?_
  by_cases h : x ∈ ys
  · rw [decide_eq_true h] at hk
    simp only [h, decide_true]
    exact hk
  · rw [decide_eq_false h] at hk
    simp only [h, decide_false]
    exact hk
section
variable {P : Program} {w : World} {K : PySem.W.Frag} {mg : Str → Option Value} {base : Heap}
theorem ok_groups (D : Defs K mg) : FnOk P w K mg base CX0 2 D.f_groups D.fd_groups ["rows", "key"] (toSp K sp_groups) := by
  have G_check_broken : FnOk P w K mg base CX0 1 D.f_check_broken D.fd_check_broken ["rows", "key"] (toSp K sp_check_broken) := ok_check_broken D
  have G_groups_of : FnOk P w K mg base CX0 1 D.f_groups_of D.fd_groups_of ["rows", "key"] (toSp K sp_groups_of) := ok_groups_of D
  refine ok_def D.F_groups sc_groups (fun oo ds Kc h => ?_) (fun cdv A outer s H E hr =>
      (ss_cons (s_expr (e_call G_check_broken (hr.mono (by decide)) (by rfl) D.g_check_broken D.F_check_broken.kp D.n_check_broken (x_cons (e_name (pv 0)) (x_cons (e_name (pv 1)) x_nil))))
      (ss_one (s_ret (e_callTy call_tuple_of dc_tuple (by rfl) D.b_tuple boot_tuple (e_call G_groups_of (hr.mono (by decide)) (by rfl) D.g_groups_of D.F_groups_of.kp D.n_groups_of (x_cons (e_name (pv 0)) (x_cons (e_name (pv 1)) x_nil)))))))) (fun oo ds Kc h => ?_)
  · obtain ⟨wd, rows, key, rfl, rfl, _⟩ := h
    rfl
  · obtain ⟨wd, rows, key, rfl, rfl, hT, k⟩ := h
    simp only [aName_eq, nm_dat, nm_own, dd_dat, dd_own, bb_bool, arg_dat, arg_own, arg_ali, das_nil, das_dat, cont_list, cont_tup, cont_own, cont_ali, contS_own, ownL_own, ownO_own, stor_dat, stor_own, iD_int, ii_int, i1_int, sAddU_int, sAddU_tup, truS_none, truS_bool, truS_int, truS_list, truS_tup, truS_ali, srcOf_list, srcOf_tup, srcOf_ali, Ab.got_some, gZ_nil, gC_cons, gT_tup, onlyDat_dat, notAli_dat, notAli_own, getO_some, fin_none, fin_some, finO_own, callA_nil, callA_dat, callA_ali, argS_none, argS_some, rt_ad, nx_ad, isN_none, isN_tup, notN_none, notN_tup, aNx, aRet, aIf, aSet, aAug, aDrop, aNever, aC, aBin, aBinR, aUn, aTst, aChain, aNot, aAnd, aOr, aIfE, aAndV, aOrV, aNotV, aNil, aCons, aTup, aLst, aCall1, aCallD, aIx, aApp, aExt, aSetIx, aTru, sLen, sAny, sAll, sSum, sList, sTuple, fI, fC, fB, aSeqI, aRng1, aFor, aFrz, gN, aUnp, aLc, aYes, aCall, aRep, aRgT, turn, wipeA, br_true, br_false, List.map_nil, List.map_cons, List.nil_append, List.cons_append, List.replicate, List.getElem?_cons_zero, List.getElem?_cons_succ, List.set_cons_zero, List.set_cons_succ, List.length_cons, List.length_nil, enS_list, enS_tup, aNotT, aEnum, aRev, aAugD, sLt_int, sLt_ints, sRepT_tup, aCall2, sIsB_eq, sNotB_eq, aDnew, aSortD, ownD_own, aSda, aTupD, datAt_dat, sAllD, aSortSetI, isN_int, notN_int, sIn_int, sNotIn_int, sEq_int, sNe_int, sEq_bool, sNe_bool, sEq_str, aSeq]
    refine ⟨wd, rows, key, rfl, rfl, hT, rfl, wd, rows, key, rfl, rfl, hT, ?_⟩
    simp only [aName_eq, nm_dat, nm_own, dd_dat, dd_own, bb_bool, arg_dat, arg_own, arg_ali, das_nil, das_dat, cont_list, cont_tup, cont_own, cont_ali, contS_own, ownL_own, ownO_own, stor_dat, stor_own, iD_int, ii_int, i1_int, sAddU_int, sAddU_tup, truS_none, truS_bool, truS_int, truS_list, truS_tup, truS_ali, srcOf_list, srcOf_tup, srcOf_ali, Ab.got_some, gZ_nil, gC_cons, gT_tup, onlyDat_dat, notAli_dat, notAli_own, getO_some, fin_none, fin_some, finO_own, callA_nil, callA_dat, callA_ali, argS_none, argS_some, rt_ad, nx_ad, isN_none, isN_tup, notN_none, notN_tup, aNx, aRet, aIf, aSet, aAug, aDrop, aNever, aC, aBin, aBinR, aUn, aTst, aChain, aNot, aAnd, aOr, aIfE, aAndV, aOrV, aNotV, aNil, aCons, aTup, aLst, aCall1, aCallD, aIx, aApp, aExt, aSetIx, aTru, sLen, sAny, sAll, sSum, sList, sTuple, fI, fC, fB, aSeqI, aRng1, aFor, aFrz, gN, aUnp, aLc, aYes, aCall, aRep, aRgT, turn, wipeA, br_true, br_false, List.map_nil, List.map_cons, List.nil_append, List.cons_append, List.replicate, List.getElem?_cons_zero, List.getElem?_cons_succ, List.set_cons_zero, List.set_cons_succ, List.length_cons, List.length_nil, enS_list, enS_tup, aNotT, aEnum, aRev, aAugD, sLt_int, sLt_ints, sRepT_tup, aCall2, sIsB_eq, sNotB_eq, aDnew, aSortD, ownD_own, aSda, aTupD, datAt_dat, sAllD, aSortSetI, isN_int, notN_int, sIn_int, sNotIn_int, sEq_int, sNe_int, sEq_bool, sNe_bool, sEq_str, aSeq]
    exact ⟨trivial, k⟩
theorem ok_count (D : Defs K mg) : FnOk P w K mg base CX0 2 D.f_count D.fd_count ["rows", "key"] (toSp K sp_count) := by
  have G_check_broken : FnOk P w K mg base CX0 1 D.f_check_broken D.fd_check_broken ["rows", "key"] (toSp K sp_check_broken) := ok_check_broken D
  have G_groups_of : FnOk P w K mg base CX0 1 D.f_groups_of D.fd_groups_of ["rows", "key"] (toSp K sp_groups_of) := ok_groups_of D
  refine ok_def D.F_count sc_count (fun oo ds Kc h => ?_) (fun cdv A outer s H E hr =>
      (ss_cons (s_expr (e_call G_check_broken (hr.mono (by decide)) (by rfl) D.g_check_broken D.F_check_broken.kp D.n_check_broken (x_cons (e_name (pv 0)) (x_cons (e_name (pv 1)) x_nil))))
      (ss_cons (s_set (ps_set (i := 2) sc_count.nd rfl (.inl rfl) e_int))
      (ss_cons (s_for PassesOwn.never rfl (i_seq (e_call G_groups_of (hr.mono (by decide)) (by rfl) D.g_groups_of D.F_groups_of.kp D.n_groups_of (x_cons (e_name (pv 0)) (x_cons (e_name (pv 1)) x_nil)))) (g_name (pg_name (i := 3) sc_count.nd rfl (.inl rfl))) (ss_one (s_augD dr_c (ps_aug (i := 2) sc_count.nd rfl (.inl rfl) (e_callB call_len_seq dc_len (by rfl) D.b_len PySem.boot_len (e_name (pv 3))) iop_mul))))
      (ss_one (s_ret (e_name (pv 2)))))))) (fun oo ds Kc h => ?_)
  · obtain ⟨wd, rows, key, rfl, rfl, _⟩ := h
    rfl
  · obtain ⟨wd, rows, key, rfl, rfl, hT, k⟩ := h
    simp only [aName_eq, nm_dat, nm_own, dd_dat, dd_own, bb_bool, arg_dat, arg_own, arg_ali, das_nil, das_dat, cont_list, cont_tup, cont_own, cont_ali, contS_own, ownL_own, ownO_own, stor_dat, stor_own, iD_int, ii_int, i1_int, sAddU_int, sAddU_tup, truS_none, truS_bool, truS_int, truS_list, truS_tup, truS_ali, srcOf_list, srcOf_tup, srcOf_ali, Ab.got_some, gZ_nil, gC_cons, gT_tup, onlyDat_dat, notAli_dat, notAli_own, getO_some, fin_none, fin_some, finO_own, callA_nil, callA_dat, callA_ali, argS_none, argS_some, rt_ad, nx_ad, isN_none, isN_tup, notN_none, notN_tup, aNx, aRet, aIf, aSet, aAug, aDrop, aNever, aC, aBin, aBinR, aUn, aTst, aChain, aNot, aAnd, aOr, aIfE, aAndV, aOrV, aNotV, aNil, aCons, aTup, aLst, aCall1, aCallD, aIx, aApp, aExt, aSetIx, aTru, sLen, sAny, sAll, sSum, sList, sTuple, fI, fC, fB, aSeqI, aRng1, aFor, aFrz, gN, aUnp, aLc, aYes, aCall, aRep, aRgT, turn, wipeA, br_true, br_false, List.map_nil, List.map_cons, List.nil_append, List.cons_append, List.replicate, List.getElem?_cons_zero, List.getElem?_cons_succ, List.set_cons_zero, List.set_cons_succ, List.length_cons, List.length_nil, enS_list, enS_tup, aNotT, aEnum, aRev, aAugD, sLt_int, sLt_ints, sRepT_tup, aCall2, sIsB_eq, sNotB_eq, aDnew, aSortD, ownD_own, aSda, aTupD, datAt_dat, sAllD, aSortSetI, isN_int, notN_int, sIn_int, sNotIn_int, sEq_int, sNe_int, sEq_bool, sNe_bool, sEq_str, aSeq]
    refine ⟨wd, rows, key, rfl, rfl, hT, rfl, wd, rows, key, rfl, rfl, hT, ?_⟩
    simp only [aName_eq, nm_dat, nm_own, dd_dat, dd_own, bb_bool, arg_dat, arg_own, arg_ali, das_nil, das_dat, cont_list, cont_tup, cont_own, cont_ali, contS_own, ownL_own, ownO_own, stor_dat, stor_own, iD_int, ii_int, i1_int, sAddU_int, sAddU_tup, truS_none, truS_bool, truS_int, truS_list, truS_tup, truS_ali, srcOf_list, srcOf_tup, srcOf_ali, Ab.got_some, gZ_nil, gC_cons, gT_tup, onlyDat_dat, notAli_dat, notAli_own, getO_some, fin_none, fin_some, finO_own, callA_nil, callA_dat, callA_ali, argS_none, argS_some, rt_ad, nx_ad, isN_none, isN_tup, notN_none, notN_tup, aNx, aRet, aIf, aSet, aAug, aDrop, aNever, aC, aBin, aBinR, aUn, aTst, aChain, aNot, aAnd, aOr, aIfE, aAndV, aOrV, aNotV, aNil, aCons, aTup, aLst, aCall1, aCallD, aIx, aApp, aExt, aSetIx, aTru, sLen, sAny, sAll, sSum, sList, sTuple, fI, fC, fB, aSeqI, aRng1, aFor, aFrz, gN, aUnp, aLc, aYes, aCall, aRep, aRgT, turn, wipeA, br_true, br_false, List.map_nil, List.map_cons, List.nil_append, List.cons_append, List.replicate, List.getElem?_cons_zero, List.getElem?_cons_succ, List.set_cons_zero, List.set_cons_succ, List.length_cons, List.length_nil, enS_list, enS_tup, aNotT, aEnum, aRev, aAugD, sLt_int, sLt_ints, sRepT_tup, aCall2, sIsB_eq, sNotB_eq, aDnew, aSortD, ownD_own, aSda, aTupD, datAt_dat, sAllD, aSortSetI, isN_int, notN_int, sIn_int, sNotIn_int, sEq_int, sNe_int, sEq_bool, sNe_bool, sEq_str, aSeq]
    refine ⟨trivial, trivial, fun _ => trivial, ?_⟩
    refine for_inv (enc := eR) (xs := groupsF rows key) (fun pre ρ => ∃ x3, ρ = [some (.dat (eR rows)), some (.dat (tI key)), some (.dat (.int (prodL pre))), x3]) ⟨none, rfl⟩ ?_ ?_
    · rintro pre g post e ρ ⟨x3, rfl⟩ Kn kn
      have hg := (groups_ok hT g (by rw [e]; simp)).few
      simp only [eR, List.length_map, aName_eq, nm_dat, nm_own, dd_dat, dd_own, bb_bool, arg_dat, arg_own, arg_ali, das_nil, das_dat, cont_list, cont_tup, cont_own, cont_ali, contS_own, ownL_own, ownO_own, stor_dat, stor_own, iD_int, ii_int, i1_int, sAddU_int, sAddU_tup, truS_none, truS_bool, truS_int, truS_list, truS_tup, truS_ali, srcOf_list, srcOf_tup, srcOf_ali, Ab.got_some, gZ_nil, gC_cons, gT_tup, onlyDat_dat, notAli_dat, notAli_own, getO_some, fin_none, fin_some, finO_own, callA_nil, callA_dat, callA_ali, argS_none, argS_some, rt_ad, nx_ad, isN_none, isN_tup, notN_none, notN_tup, aNx, aRet, aIf, aSet, aAug, aDrop, aNever, aC, aBin, aBinR, aUn, aTst, aChain, aNot, aAnd, aOr, aIfE, aAndV, aOrV, aNotV, aNil, aCons, aTup, aLst, aCall1, aCallD, aIx, aApp, aExt, aSetIx, aTru, sLen, sAny, sAll, sSum, sList, sTuple, fI, fC, fB, aSeqI, aRng1, aFor, aFrz, gN, aUnp, aLc, aYes, aCall, aRep, aRgT, turn, wipeA, br_true, br_false, List.map_nil, List.map_cons, List.nil_append, List.cons_append, List.replicate, List.getElem?_cons_zero, List.getElem?_cons_succ, List.set_cons_zero, List.set_cons_succ, List.length_cons, List.length_nil, enS_list, enS_tup, aNotT, aEnum, aRev, aAugD, sLt_int, sLt_ints, sRepT_tup, aCall2, sIsB_eq, sNotB_eq, aDnew, aSortD, ownD_own, aSda, aTupD, datAt_dat, sAllD, aSortSetI, isN_int, notN_int, sIn_int, sNotIn_int, sEq_int, sNe_int, sEq_bool, sNe_bool, sEq_str, aSeq]
      refine ⟨.inr ⟨by omega, by omega⟩, kn _ ⟨some (.dat (eR g)), ?_⟩⟩
      unfold prodL
      rw [List.foldl_append]
      rfl
    · rintro ρ ⟨x3, rfl⟩
      simp only [aName_eq, nm_dat, nm_own, dd_dat, dd_own, bb_bool, arg_dat, arg_own, arg_ali, das_nil, das_dat, cont_list, cont_tup, cont_own, cont_ali, contS_own, ownL_own, ownO_own, stor_dat, stor_own, iD_int, ii_int, i1_int, sAddU_int, sAddU_tup, truS_none, truS_bool, truS_int, truS_list, truS_tup, truS_ali, srcOf_list, srcOf_tup, srcOf_ali, Ab.got_some, gZ_nil, gC_cons, gT_tup, onlyDat_dat, notAli_dat, notAli_own, getO_some, fin_none, fin_some, finO_own, callA_nil, callA_dat, callA_ali, argS_none, argS_some, rt_ad, nx_ad, isN_none, isN_tup, notN_none, notN_tup, aNx, aRet, aIf, aSet, aAug, aDrop, aNever, aC, aBin, aBinR, aUn, aTst, aChain, aNot, aAnd, aOr, aIfE, aAndV, aOrV, aNotV, aNil, aCons, aTup, aLst, aCall1, aCallD, aIx, aApp, aExt, aSetIx, aTru, sLen, sAny, sAll, sSum, sList, sTuple, fI, fC, fB, aSeqI, aRng1, aFor, aFrz, gN, aUnp, aLc, aYes, aCall, aRep, aRgT, turn, wipeA, br_true, br_false, List.map_nil, List.map_cons, List.nil_append, List.cons_append, List.replicate, List.getElem?_cons_zero, List.getElem?_cons_succ, List.set_cons_zero, List.set_cons_succ, List.length_cons, List.length_nil, enS_list, enS_tup, aNotT, aEnum, aRev, aAugD, sLt_int, sLt_ints, sRepT_tup, aCall2, sIsB_eq, sNotB_eq, aDnew, aSortD, ownD_own, aSda, aTupD, datAt_dat, sAllD, aSortSetI, isN_int, notN_int, sIn_int, sNotIn_int, sEq_int, sNe_int, sEq_bool, sNe_bool, sEq_str, aSeq]
      exact k
theorem ok_mending_at (D : Defs K mg) : FnOk P w K mg base CX0 3 D.f_mending_at D.fd_mending_at ["rows", "key", "number"] (toSp K sp_mending_at) := by
  have G_check_broken : FnOk P w K mg base CX0 1 D.f_check_broken D.fd_check_broken ["rows", "key"] (toSp K sp_check_broken) := ok_check_broken D
  have G_count : FnOk P w K mg base CX0 2 D.f_count D.fd_count ["rows", "key"] (toSp K sp_count) := ok_count D
  have G_groups_of : FnOk P w K mg base CX0 1 D.f_groups_of D.fd_groups_of ["rows", "key"] (toSp K sp_groups_of) := ok_groups_of D
  refine ok_def D.F_mending_at sc_mending_at (fun oo ds Kc h => ?_) (fun cdv A outer s H E hr =>
      (ss_cons (s_expr (e_call G_check_broken (hr.mono (by decide)) (by rfl) D.g_check_broken D.F_check_broken.kp D.n_check_broken (x_cons (e_name (pv 0)) (x_cons (e_name (pv 1)) x_nil))))
      (ss_cons (s_if (t_not (t_chain op_le dr_b op_lt dr_b e_int (e_name (pv 2)) (e_call G_count (hr.mono (by decide)) (by rfl) D.g_count D.F_count.kp D.n_count (x_cons (e_name (pv 0)) (x_cons (e_name (pv 1)) x_nil))))) ss_never ss_nil)
      (ss_cons (s_set (ps_set (i := 3) sc_mending_at.nd rfl (.inl rfl) (e_lst x_nil)))
      (ss_cons (s_for PassesOwn.never rfl (i_seq (e_rev (e_call G_groups_of (hr.mono (by decide)) (by rfl) D.g_groups_of D.F_groups_of.kp D.n_groups_of (x_cons (e_name (pv 0)) (x_cons (e_name (pv 1)) x_nil))))) (g_name (pg_name (i := 4) sc_mending_at.nd rfl (.inl rfl))) (ss_cons (s_app (pe_append (pv 3) (e_ix (e_name (pv 4)) (e_op op_modN dr_c (e_name (pv 2)) (e_callB call_len_seq dc_len (by rfl) D.b_len PySem.boot_len (e_name (pv 4)))))))
      (ss_one (s_augD dr_c (ps_aug (i := 2) sc_mending_at.nd rfl (.inl rfl) (e_callB call_len_seq dc_len (by rfl) D.b_len PySem.boot_len (e_name (pv 4))) iop_fdiv)))))
      (ss_one (s_ret (e_callTy call_tuple_of dc_tuple (by rfl) D.b_tuple boot_tuple (e_rev (e_name (pv 3))))))))))) (fun oo ds Kc h => ?_)
  · obtain ⟨wd, rows, key, n, rfl, rfl, _⟩ := h
    rfl
  · obtain ⟨wd, rows, key, n, rfl, rfl, hT, n0, n1, k⟩ := h
    simp only [aName_eq, nm_dat, nm_own, dd_dat, dd_own, bb_bool, arg_dat, arg_own, arg_ali, das_nil, das_dat, cont_list, cont_tup, cont_own, cont_ali, contS_own, ownL_own, ownO_own, stor_dat, stor_own, iD_int, ii_int, i1_int, sAddU_int, sAddU_tup, truS_none, truS_bool, truS_int, truS_list, truS_tup, truS_ali, srcOf_list, srcOf_tup, srcOf_ali, Ab.got_some, gZ_nil, gC_cons, gT_tup, onlyDat_dat, notAli_dat, notAli_own, getO_some, fin_none, fin_some, finO_own, callA_nil, callA_dat, callA_ali, argS_none, argS_some, rt_ad, nx_ad, isN_none, isN_tup, notN_none, notN_tup, aNx, aRet, aIf, aSet, aAug, aDrop, aNever, aC, aBin, aBinR, aUn, aTst, aChain, aNot, aAnd, aOr, aIfE, aAndV, aOrV, aNotV, aNil, aCons, aTup, aLst, aCall1, aCallD, aIx, aApp, aExt, aSetIx, aTru, sLen, sAny, sAll, sSum, sList, sTuple, fI, fC, fB, aSeqI, aRng1, aFor, aFrz, gN, aUnp, aLc, aYes, aCall, aRep, aRgT, turn, wipeA, br_true, br_false, List.map_nil, List.map_cons, List.nil_append, List.cons_append, List.replicate, List.getElem?_cons_zero, List.getElem?_cons_succ, List.set_cons_zero, List.set_cons_succ, List.length_cons, List.length_nil, enS_list, enS_tup, aNotT, aEnum, aRev, aAugD, sLt_int, sLt_ints, sRepT_tup, aCall2, sIsB_eq, sNotB_eq, aDnew, aSortD, ownD_own, aSda, aTupD, datAt_dat, sAllD, aSortSetI, isN_int, notN_int, sIn_int, sNotIn_int, sEq_int, sNe_int, sEq_bool, sNe_bool, sEq_str, aSeq]
    have b0 : decide (0 ≤ n) = true := decide_eq_true n0
    simp only [b0, br_true]
    refine ⟨wd, rows, key, rfl, rfl, hT, rfl, wd, rows, key, rfl, rfl, hT, rfl, ?_⟩
    have b1 : decide (n < countF rows key) = true := decide_eq_true n1
    simp only [dd_dat, ii_int, fB, bb_bool, b1, Bool.not_true, br_false]
    refine ⟨small_le (by decide), wd, rows, key, rfl, rfl, hT, rfl, ?_⟩
    simp only [aName_eq, nm_dat, nm_own, dd_dat, dd_own, bb_bool, arg_dat, arg_own, arg_ali, das_nil, das_dat, cont_list, cont_tup, cont_own, cont_ali, contS_own, ownL_own, ownO_own, stor_dat, stor_own, iD_int, ii_int, i1_int, sAddU_int, sAddU_tup, truS_none, truS_bool, truS_int, truS_list, truS_tup, truS_ali, srcOf_list, srcOf_tup, srcOf_ali, Ab.got_some, gZ_nil, gC_cons, gT_tup, onlyDat_dat, notAli_dat, notAli_own, getO_some, fin_none, fin_some, finO_own, callA_nil, callA_dat, callA_ali, argS_none, argS_some, rt_ad, nx_ad, isN_none, isN_tup, notN_none, notN_tup, aNx, aRet, aIf, aSet, aAug, aDrop, aNever, aC, aBin, aBinR, aUn, aTst, aChain, aNot, aAnd, aOr, aIfE, aAndV, aOrV, aNotV, aNil, aCons, aTup, aLst, aCall1, aCallD, aIx, aApp, aExt, aSetIx, aTru, sLen, sAny, sAll, sSum, sList, sTuple, fI, fC, fB, aSeqI, aRng1, aFor, aFrz, gN, aUnp, aLc, aYes, aCall, aRep, aRgT, turn, wipeA, br_true, br_false, List.map_nil, List.map_cons, List.nil_append, List.cons_append, List.replicate, List.getElem?_cons_zero, List.getElem?_cons_succ, List.set_cons_zero, List.set_cons_succ, List.length_cons, List.length_nil, enS_list, enS_tup, aNotT, aEnum, aRev, aAugD, sLt_int, sLt_ints, sRepT_tup, aCall2, sIsB_eq, sNotB_eq, aDnew, aSortD, ownD_own, aSda, aTupD, datAt_dat, sAllD, aSortSetI, isN_int, notN_int, sIn_int, sNotIn_int, sEq_int, sNe_int, sEq_bool, sNe_bool, sEq_str, aSeq]
    refine ⟨trivial, trivial, fun _ => trivial, ?_⟩
    rw [← List.map_reverse]
    refine for_inv (enc := eR) (xs := (groupsF rows key).reverse) (fun pre ρ => ∃ x4, ρ = [some (.dat (eR rows)), some (.dat (tI key)), some (.dat (.int (numA pre n))), some (.own none (.lst ((mendR pre n).map tI))), x4]) ⟨none, rfl⟩ ?_ ?_
    · rintro pre g post e ρ ⟨x4, rfl⟩ Kn kn
      have hg := groups_ok hT g (List.mem_reverse.mp (by rw [e]; simp))
      have hgl : 0 < g.length := List.length_pos_iff.mpr hg.ne
      have hgf := hg.few
      have hm := emod_rng (n := numA pre n) hgl
      have hpl : (mendR pre n).length ≤ 40 := by
        rw [mendR_len]
        have g1 := groups_len hT
        have g2 := congrArg List.length e
        rw [List.length_reverse, List.length_append] at g2
        omega
      have ef : (numA pre n).fmod (g.length : Int) = numA pre n % (g.length : Int) := Int.fmod_eq_emod_of_nonneg _ (by omega)
      have ea : atI (g.map tI) (numA pre n % (g.length : Int)) = some (tI (g.getD (numA pre n % (g.length : Int)).toNat [])) := by
        have z := atI_map tI (xs := g) (k := (numA pre n % (g.length : Int)).toNat) (by omega)
        rw [Int.toNat_of_nonneg hm.1] at z
        rw [z, getD_mem (by omega)]
      simp only [eR, List.length_map, ef, ea, aName_eq, nm_dat, nm_own, dd_dat, dd_own, bb_bool, arg_dat, arg_own, arg_ali, das_nil, das_dat, cont_list, cont_tup, cont_own, cont_ali, contS_own, ownL_own, ownO_own, stor_dat, stor_own, iD_int, ii_int, i1_int, sAddU_int, sAddU_tup, truS_none, truS_bool, truS_int, truS_list, truS_tup, truS_ali, srcOf_list, srcOf_tup, srcOf_ali, Ab.got_some, gZ_nil, gC_cons, gT_tup, onlyDat_dat, notAli_dat, notAli_own, getO_some, fin_none, fin_some, finO_own, callA_nil, callA_dat, callA_ali, argS_none, argS_some, rt_ad, nx_ad, isN_none, isN_tup, notN_none, notN_tup, aNx, aRet, aIf, aSet, aAug, aDrop, aNever, aC, aBin, aBinR, aUn, aTst, aChain, aNot, aAnd, aOr, aIfE, aAndV, aOrV, aNotV, aNil, aCons, aTup, aLst, aCall1, aCallD, aIx, aApp, aExt, aSetIx, aTru, sLen, sAny, sAll, sSum, sList, sTuple, fI, fC, fB, aSeqI, aRng1, aFor, aFrz, gN, aUnp, aLc, aYes, aCall, aRep, aRgT, turn, wipeA, br_true, br_false, List.map_nil, List.map_cons, List.nil_append, List.cons_append, List.replicate, List.getElem?_cons_zero, List.getElem?_cons_succ, List.set_cons_zero, List.set_cons_succ, List.length_cons, List.length_nil, enS_list, enS_tup, aNotT, aEnum, aRev, aAugD, sLt_int, sLt_ints, sRepT_tup, aCall2, sIsB_eq, sNotB_eq, aDnew, aSortD, ownD_own, aSda, aTupD, datAt_dat, sAllD, aSortSetI, isN_int, notN_int, sIn_int, sNotIn_int, sEq_int, sNe_int, sEq_bool, sNe_bool, sEq_str, aSeq]
      refine ⟨by omega, small_len (by omega), ⟨by omega, by omega⟩, kn _ ⟨some (.dat (eR g)), ?_⟩⟩
      rw [mendR_snoc, numA_snoc, List.map_append]
      rfl
    · rintro ρ ⟨x4, rfl⟩
      simp only [aName_eq, nm_dat, nm_own, dd_dat, dd_own, bb_bool, arg_dat, arg_own, arg_ali, das_nil, das_dat, cont_list, cont_tup, cont_own, cont_ali, contS_own, ownL_own, ownO_own, stor_dat, stor_own, iD_int, ii_int, i1_int, sAddU_int, sAddU_tup, truS_none, truS_bool, truS_int, truS_list, truS_tup, truS_ali, srcOf_list, srcOf_tup, srcOf_ali, Ab.got_some, gZ_nil, gC_cons, gT_tup, onlyDat_dat, notAli_dat, notAli_own, getO_some, fin_none, fin_some, finO_own, callA_nil, callA_dat, callA_ali, argS_none, argS_some, rt_ad, nx_ad, isN_none, isN_tup, notN_none, notN_tup, aNx, aRet, aIf, aSet, aAug, aDrop, aNever, aC, aBin, aBinR, aUn, aTst, aChain, aNot, aAnd, aOr, aIfE, aAndV, aOrV, aNotV, aNil, aCons, aTup, aLst, aCall1, aCallD, aIx, aApp, aExt, aSetIx, aTru, sLen, sAny, sAll, sSum, sList, sTuple, fI, fC, fB, aSeqI, aRng1, aFor, aFrz, gN, aUnp, aLc, aYes, aCall, aRep, aRgT, turn, wipeA, br_true, br_false, List.map_nil, List.map_cons, List.nil_append, List.cons_append, List.replicate, List.getElem?_cons_zero, List.getElem?_cons_succ, List.set_cons_zero, List.set_cons_succ, List.length_cons, List.length_nil, enS_list, enS_tup, aNotT, aEnum, aRev, aAugD, sLt_int, sLt_ints, sRepT_tup, aCall2, sIsB_eq, sNotB_eq, aDnew, aSortD, ownD_own, aSda, aTupD, datAt_dat, sAllD, aSortSetI, isN_int, notN_int, sIn_int, sNotIn_int, sEq_int, sNe_int, sEq_bool, sNe_bool, sEq_str, aSeq]
      refine ⟨trivial, ?_⟩
      rw [← List.map_reverse]
      exact k
theorem ok_is_mending (D : Defs K mg) : FnOk P w K mg base CX0 2 D.f_is_mending D.fd_is_mending ["rows", "key", "kept"] (toSp K sp_is_mending) := by
  have G_check_broken : FnOk P w K mg base CX0 1 D.f_check_broken D.fd_check_broken ["rows", "key"] (toSp K sp_check_broken) := ok_check_broken D
  have G_groups_of : FnOk P w K mg base CX0 1 D.f_groups_of D.fd_groups_of ["rows", "key"] (toSp K sp_groups_of) := ok_groups_of D
  refine ok_def D.F_is_mending sc_is_mending (fun oo ds Kc h => ?_) (fun cdv A outer s H E hr =>
      (ss_cons (s_expr (e_call G_check_broken (hr.mono (by decide)) (by rfl) D.g_check_broken D.F_check_broken.kp D.n_check_broken (x_cons (e_name (pv 0)) (x_cons (e_name (pv 1)) x_nil))))
      (ss_cons (s_set (ps_set (i := 3) sc_is_mending.nd rfl (.inr rfl) (e_call G_groups_of (hr.mono (by decide)) (by rfl) D.g_groups_of D.F_groups_of.kp D.n_groups_of (x_cons (e_name (pv 0)) (x_cons (e_name (pv 1)) x_nil)))))
      (ss_one (s_ret (e_and (e_cmp (op_eqP hr.units) dr_eq (e_callB call_len_seq dc_len (by rfl) D.b_len PySem.boot_len (e_name (pv 2))) (e_callB call_len_seq dc_len (by rfl) D.b_len PySem.boot_len (e_name (pv 3))) (nomark _)) (e_one (e_callB (cr_all rfl) dc_all (by rfl) D.b_all boot_all (e_lc (own := [("k", 4)]) rfl sc_is_mending.nd (i_rng1 (by rfl) D.b_range (e_callB call_len_seq dc_len (by rfl) D.b_len PySem.boot_len (e_name (pv 3)))) (blkOk_by (by kernel_rfl)) (fun _ _ _ _ _ => (g_name (pg_name (i := 4) sc_is_mending.nd rfl (by first | exact Or.inl rfl | exact Or.inr rfl)))) (fun _ _ _ _ _ => ts_nil) (fun _ _ _ _ _ => (e_cmpS (op_inP hr.units) dr_in (e_ix (e_name (pv 2)) (e_name (pv 4))) (e_ix (e_name (pv 3)) (e_name (pv 4)))))))))))))) (fun oo ds Kc h => ?_)
  · obtain ⟨wd, rows, key, kept, rfl, rfl, _⟩ := h
    rfl
  · obtain ⟨wd, rows, key, kept, rfl, rfl, hT, k⟩ := h
    simp only [aName_eq, nm_dat, nm_own, dd_dat, dd_own, bb_bool, arg_dat, arg_own, arg_ali, das_nil, das_dat, cont_list, cont_tup, cont_own, cont_ali, contS_own, ownL_own, ownO_own, stor_dat, stor_own, iD_int, ii_int, i1_int, sAddU_int, sAddU_tup, truS_none, truS_bool, truS_int, truS_list, truS_tup, truS_ali, srcOf_list, srcOf_tup, srcOf_ali, Ab.got_some, gZ_nil, gC_cons, gT_tup, onlyDat_dat, notAli_dat, notAli_own, getO_some, fin_none, fin_some, finO_own, callA_nil, callA_dat, callA_ali, argS_none, argS_some, rt_ad, nx_ad, isN_none, isN_tup, notN_none, notN_tup, aNx, aRet, aIf, aSet, aAug, aDrop, aNever, aC, aBin, aBinR, aUn, aTst, aChain, aNot, aAnd, aOr, aIfE, aAndV, aOrV, aNotV, aNil, aCons, aTup, aLst, aCall1, aCallD, aIx, aApp, aExt, aSetIx, aTru, sLen, sAny, sAll, sSum, sList, sTuple, fI, fC, fB, aSeqI, aRng1, aFor, aFrz, gN, aUnp, aLc, aYes, aCall, aRep, aRgT, turn, wipeA, br_true, br_false, List.map_nil, List.map_cons, List.nil_append, List.cons_append, List.replicate, List.getElem?_cons_zero, List.getElem?_cons_succ, List.set_cons_zero, List.set_cons_succ, List.length_cons, List.length_nil, enS_list, enS_tup, aNotT, aEnum, aRev, aAugD, sLt_int, sLt_ints, sRepT_tup, aCall2, sIsB_eq, sNotB_eq, aDnew, aSortD, ownD_own, aSda, aTupD, datAt_dat, sAllD, aSortSetI, isN_int, notN_int, sIn_int, sNotIn_int, sEq_int, sNe_int, sEq_bool, sNe_bool, sEq_str, aSeq]
    refine ⟨wd, rows, key, rfl, rfl, hT, rfl, wd, rows, key, rfl, rfl, hT, ?_⟩
    simp only [aName_eq, nm_dat, nm_own, dd_dat, dd_own, bb_bool, arg_dat, arg_own, arg_ali, das_nil, das_dat, cont_list, cont_tup, cont_own, cont_ali, contS_own, ownL_own, ownO_own, stor_dat, stor_own, iD_int, ii_int, i1_int, sAddU_int, sAddU_tup, truS_none, truS_bool, truS_int, truS_list, truS_tup, truS_ali, srcOf_list, srcOf_tup, srcOf_ali, Ab.got_some, gZ_nil, gC_cons, gT_tup, onlyDat_dat, notAli_dat, notAli_own, getO_some, fin_none, fin_some, finO_own, callA_nil, callA_dat, callA_ali, argS_none, argS_some, rt_ad, nx_ad, isN_none, isN_tup, notN_none, notN_tup, aNx, aRet, aIf, aSet, aAug, aDrop, aNever, aC, aBin, aBinR, aUn, aTst, aChain, aNot, aAnd, aOr, aIfE, aAndV, aOrV, aNotV, aNil, aCons, aTup, aLst, aCall1, aCallD, aIx, aApp, aExt, aSetIx, aTru, sLen, sAny, sAll, sSum, sList, sTuple, fI, fC, fB, aSeqI, aRng1, aFor, aFrz, gN, aUnp, aLc, aYes, aCall, aRep, aRgT, turn, wipeA, br_true, br_false, List.map_nil, List.map_cons, List.nil_append, List.cons_append, List.replicate, List.getElem?_cons_zero, List.getElem?_cons_succ, List.set_cons_zero, List.set_cons_succ, List.length_cons, List.length_nil, enS_list, enS_tup, aNotT, aEnum, aRev, aAugD, sLt_int, sLt_ints, sRepT_tup, aCall2, sIsB_eq, sNotB_eq, aDnew, aSortD, ownD_own, aSda, aTupD, datAt_dat, sAllD, aSortSetI, isN_int, notN_int, sIn_int, sNotIn_int, sEq_int, sNe_int, sEq_bool, sNe_bool, sEq_str, aSeq]
    have hl := groups_len hT
    refine ⟨trivial, ?_⟩
    simp only [List.length_map]
    by_cases e : kept.length = (groupsF rows key).length
    · have b0 : decide ((kept.length : Int) = ((groupsF rows key).length : Int)) = true := decide_eq_true (by rw [e])
      simp only [b0, br_true]
      refine ⟨by omega, by omega, ?_⟩
      rw [rangeD0]
      refine lc_map (enc := fun (q : Nat) => PyData.int (q : Int)) (fun k => .bool (decide (kept.getD k [] ∈ (groupsF rows key).getD k []))) trivial (by simp [Ab.freeOf]) (small_len (by simp; omega)) (fun x hx Ka Ks ka => ?_) ?_
      · have hx : x < (groupsF rows key).length := by
          have := List.mem_range.mp hx
          omega
        rw [getD_mem hx, getD_mem (by omega)] at ka
        simp only [eR, aName_eq, nm_dat, nm_own, dd_dat, dd_own, bb_bool, arg_dat, arg_own, arg_ali, das_nil, das_dat, cont_list, cont_tup, cont_own, cont_ali, contS_own, ownL_own, ownO_own, stor_dat, stor_own, iD_int, ii_int, i1_int, sAddU_int, sAddU_tup, truS_none, truS_bool, truS_int, truS_list, truS_tup, truS_ali, srcOf_list, srcOf_tup, srcOf_ali, Ab.got_some, gZ_nil, gC_cons, gT_tup, onlyDat_dat, notAli_dat, notAli_own, getO_some, fin_none, fin_some, finO_own, callA_nil, callA_dat, callA_ali, argS_none, argS_some, rt_ad, nx_ad, isN_none, isN_tup, notN_none, notN_tup, aNx, aRet, aIf, aSet, aAug, aDrop, aNever, aC, aBin, aBinR, aUn, aTst, aChain, aNot, aAnd, aOr, aIfE, aAndV, aOrV, aNotV, aNil, aCons, aTup, aLst, aCall1, aCallD, aIx, aApp, aExt, aSetIx, aTru, sLen, sAny, sAll, sSum, sList, sTuple, fI, fC, fB, aSeqI, aRng1, aFor, aFrz, gN, aUnp, aLc, aYes, aCall, aRep, aRgT, turn, wipeA, br_true, br_false, List.map_nil, List.map_cons, List.nil_append, List.cons_append, List.replicate, List.getElem?_cons_zero, List.getElem?_cons_succ, List.set_cons_zero, List.set_cons_succ, List.length_cons, List.length_nil, enS_list, enS_tup, aNotT, aEnum, aRev, aAugD, sLt_int, sLt_ints, sRepT_tup, aCall2, sIsB_eq, sNotB_eq, aDnew, aSortD, ownD_own, aSda, aTupD, datAt_dat, sAllD, aSortSetI, isN_int, notN_int, sIn_int, sNotIn_int, sEq_int, sNe_int, sEq_bool, sNe_bool, sEq_str, aSeq]
        rw [atI_map tI (by omega)]
        simp only [aName_eq, nm_dat, nm_own, dd_dat, dd_own, bb_bool, arg_dat, arg_own, arg_ali, das_nil, das_dat, cont_list, cont_tup, cont_own, cont_ali, contS_own, ownL_own, ownO_own, stor_dat, stor_own, iD_int, ii_int, i1_int, sAddU_int, sAddU_tup, truS_none, truS_bool, truS_int, truS_list, truS_tup, truS_ali, srcOf_list, srcOf_tup, srcOf_ali, Ab.got_some, gZ_nil, gC_cons, gT_tup, onlyDat_dat, notAli_dat, notAli_own, getO_some, fin_none, fin_some, finO_own, callA_nil, callA_dat, callA_ali, argS_none, argS_some, rt_ad, nx_ad, isN_none, isN_tup, notN_none, notN_tup, aNx, aRet, aIf, aSet, aAug, aDrop, aNever, aC, aBin, aBinR, aUn, aTst, aChain, aNot, aAnd, aOr, aIfE, aAndV, aOrV, aNotV, aNil, aCons, aTup, aLst, aCall1, aCallD, aIx, aApp, aExt, aSetIx, aTru, sLen, sAny, sAll, sSum, sList, sTuple, fI, fC, fB, aSeqI, aRng1, aFor, aFrz, gN, aUnp, aLc, aYes, aCall, aRep, aRgT, turn, wipeA, br_true, br_false, List.map_nil, List.map_cons, List.nil_append, List.cons_append, List.replicate, List.getElem?_cons_zero, List.getElem?_cons_succ, List.set_cons_zero, List.set_cons_succ, List.length_cons, List.length_nil, enS_list, enS_tup, aNotT, aEnum, aRev, aAugD, sLt_int, sLt_ints, sRepT_tup, aCall2, sIsB_eq, sNotB_eq, aDnew, aSortD, ownD_own, aSda, aTupD, datAt_dat, sAllD, aSortSetI, isN_int, notN_int, sIn_int, sNotIn_int, sEq_int, sNe_int, sEq_bool, sNe_bool, sEq_str, aSeq]
        rw [atI_map eR hx]
        simp only [eR, aName_eq, nm_dat, nm_own, dd_dat, dd_own, bb_bool, arg_dat, arg_own, arg_ali, das_nil, das_dat, cont_list, cont_tup, cont_own, cont_ali, contS_own, ownL_own, ownO_own, stor_dat, stor_own, iD_int, ii_int, i1_int, sAddU_int, sAddU_tup, truS_none, truS_bool, truS_int, truS_list, truS_tup, truS_ali, srcOf_list, srcOf_tup, srcOf_ali, Ab.got_some, gZ_nil, gC_cons, gT_tup, onlyDat_dat, notAli_dat, notAli_own, getO_some, fin_none, fin_some, finO_own, callA_nil, callA_dat, callA_ali, argS_none, argS_some, rt_ad, nx_ad, isN_none, isN_tup, notN_none, notN_tup, aNx, aRet, aIf, aSet, aAug, aDrop, aNever, aC, aBin, aBinR, aUn, aTst, aChain, aNot, aAnd, aOr, aIfE, aAndV, aOrV, aNotV, aNil, aCons, aTup, aLst, aCall1, aCallD, aIx, aApp, aExt, aSetIx, aTru, sLen, sAny, sAll, sSum, sList, sTuple, fI, fC, fB, aSeqI, aRng1, aFor, aFrz, gN, aUnp, aLc, aYes, aCall, aRep, aRgT, turn, wipeA, br_true, br_false, List.map_nil, List.map_cons, List.nil_append, List.cons_append, List.replicate, List.getElem?_cons_zero, List.getElem?_cons_succ, List.set_cons_zero, List.set_cons_succ, List.length_cons, List.length_nil, enS_list, enS_tup, aNotT, aEnum, aRev, aAugD, sLt_int, sLt_ints, sRepT_tup, aCall2, sIsB_eq, sNotB_eq, aDnew, aSortD, ownD_own, aSda, aTupD, datAt_dat, sAllD, aSortSetI, isN_int, notN_int, sIn_int, sNotIn_int, sEq_int, sNe_int, sEq_bool, sNe_bool, sEq_str, aSeq]
        exact sIn_row ka
      · simp only [bools_map, all_map, Int.toNat_natCast, aName_eq, nm_dat, nm_own, dd_dat, dd_own, bb_bool, arg_dat, arg_own, arg_ali, das_nil, das_dat, cont_list, cont_tup, cont_own, cont_ali, contS_own, ownL_own, ownO_own, stor_dat, stor_own, iD_int, ii_int, i1_int, sAddU_int, sAddU_tup, truS_none, truS_bool, truS_int, truS_list, truS_tup, truS_ali, srcOf_list, srcOf_tup, srcOf_ali, Ab.got_some, gZ_nil, gC_cons, gT_tup, onlyDat_dat, notAli_dat, notAli_own, getO_some, fin_none, fin_some, finO_own, callA_nil, callA_dat, callA_ali, argS_none, argS_some, rt_ad, nx_ad, isN_none, isN_tup, notN_none, notN_tup, aNx, aRet, aIf, aSet, aAug, aDrop, aNever, aC, aBin, aBinR, aUn, aTst, aChain, aNot, aAnd, aOr, aIfE, aAndV, aOrV, aNotV, aNil, aCons, aTup, aLst, aCall1, aCallD, aIx, aApp, aExt, aSetIx, aTru, sLen, sAny, sAll, sSum, sList, sTuple, fI, fC, fB, aSeqI, aRng1, aFor, aFrz, gN, aUnp, aLc, aYes, aCall, aRep, aRgT, turn, wipeA, br_true, br_false, List.map_nil, List.map_cons, List.nil_append, List.cons_append, List.replicate, List.getElem?_cons_zero, List.getElem?_cons_succ, List.set_cons_zero, List.set_cons_succ, List.length_cons, List.length_nil, enS_list, enS_tup, aNotT, aEnum, aRev, aAugD, sLt_int, sLt_ints, sRepT_tup, aCall2, sIsB_eq, sNotB_eq, aDnew, aSortD, ownD_own, aSda, aTupD, datAt_dat, sAllD, aSortSetI, isN_int, notN_int, sIn_int, sNotIn_int, sEq_int, sNe_int, sEq_bool, sNe_bool, sEq_str, aSeq]
        refine ⟨trivial, ?_⟩
        have : isMend (groupsF rows key) kept = (List.range (groupsF rows key).length).all fun k => decide (kept.getD k [] ∈ (groupsF rows key).getD k []) := by
          unfold isMend
          rw [decide_eq_true e, Bool.true_and]
        rw [this] at k
        exact k
    · have b0 : decide ((kept.length : Int) = ((groupsF rows key).length : Int)) = false := decide_eq_false (by omega)
      simp only [b0, br_false]
      have : isMend (groupsF rows key) kept = false := by
        unfold isMend
        rw [decide_eq_false e, Bool.false_and]
      rw [this] at k
      exact k
theorem ok_check_question (D : Defs K mg) : FnOk P w K mg base CX0 2 D.f_check_question D.fd_check_question ["rows", "key", "question"] (toSp K sp_check_question) := by
  have G_check_broken : FnOk P w K mg base CX0 1 D.f_check_broken D.fd_check_broken ["rows", "key"] (toSp K sp_check_broken) := ok_check_broken D
  refine ok_def D.F_check_question sc_check_question (fun oo ds Kc h => ?_) (fun cdv A outer s H E hr =>
      (ss_cons (s_expr (e_call G_check_broken (hr.mono (by decide)) (by rfl) D.g_check_broken D.F_check_broken.kp D.n_check_broken (x_cons (e_name (pv 0)) (x_cons (e_name (pv 1)) x_nil))))
      (ss_one (s_if (t_w (w_andC (t_truth (e_name (pv 0))) (w_and1 (t_cmp (op_neP hr.units) dr_ne (e_callB call_len_seq dc_len (by rfl) D.b_len PySem.boot_len (e_name (pv 2))) (e_callB call_len_seq dc_len (by rfl) D.b_len PySem.boot_len (e_ix (e_name (pv 0)) e_int)) (nomark _))))) ss_never ss_nil)))) (fun oo ds Kc h => ?_)
  · obtain ⟨wd, rows, key, q, rfl, rfl, _⟩ := h
    rfl
  · obtain ⟨wd, rows, key, q, rfl, rfl, hT, hq, k⟩ := h
    simp only [aName_eq, nm_dat, nm_own, dd_dat, dd_own, bb_bool, arg_dat, arg_own, arg_ali, das_nil, das_dat, cont_list, cont_tup, cont_own, cont_ali, contS_own, ownL_own, ownO_own, stor_dat, stor_own, iD_int, ii_int, i1_int, sAddU_int, sAddU_tup, truS_none, truS_bool, truS_int, truS_list, truS_tup, truS_ali, srcOf_list, srcOf_tup, srcOf_ali, Ab.got_some, gZ_nil, gC_cons, gT_tup, onlyDat_dat, notAli_dat, notAli_own, getO_some, fin_none, fin_some, finO_own, callA_nil, callA_dat, callA_ali, argS_none, argS_some, rt_ad, nx_ad, isN_none, isN_tup, notN_none, notN_tup, aNx, aRet, aIf, aSet, aAug, aDrop, aNever, aC, aBin, aBinR, aUn, aTst, aChain, aNot, aAnd, aOr, aIfE, aAndV, aOrV, aNotV, aNil, aCons, aTup, aLst, aCall1, aCallD, aIx, aApp, aExt, aSetIx, aTru, sLen, sAny, sAll, sSum, sList, sTuple, fI, fC, fB, aSeqI, aRng1, aFor, aFrz, gN, aUnp, aLc, aYes, aCall, aRep, aRgT, turn, wipeA, br_true, br_false, List.map_nil, List.map_cons, List.nil_append, List.cons_append, List.replicate, List.getElem?_cons_zero, List.getElem?_cons_succ, List.set_cons_zero, List.set_cons_succ, List.length_cons, List.length_nil, enS_list, enS_tup, aNotT, aEnum, aRev, aAugD, sLt_int, sLt_ints, sRepT_tup, aCall2, sIsB_eq, sNotB_eq, aDnew, aSortD, ownD_own, aSda, aTupD, datAt_dat, sAllD, aSortSetI, isN_int, notN_int, sIn_int, sNotIn_int, sEq_int, sNe_int, sEq_bool, sNe_bool, sEq_str, aSeq]
    refine ⟨wd, rows, key, rfl, rfl, hT, rfl, ?_⟩
    simp only [aName_eq, nm_dat, nm_own, dd_dat, dd_own, bb_bool, arg_dat, arg_own, arg_ali, das_nil, das_dat, cont_list, cont_tup, cont_own, cont_ali, contS_own, ownL_own, ownO_own, stor_dat, stor_own, iD_int, ii_int, i1_int, sAddU_int, sAddU_tup, truS_none, truS_bool, truS_int, truS_list, truS_tup, truS_ali, srcOf_list, srcOf_tup, srcOf_ali, Ab.got_some, gZ_nil, gC_cons, gT_tup, onlyDat_dat, notAli_dat, notAli_own, getO_some, fin_none, fin_some, finO_own, callA_nil, callA_dat, callA_ali, argS_none, argS_some, rt_ad, nx_ad, isN_none, isN_tup, notN_none, notN_tup, aNx, aRet, aIf, aSet, aAug, aDrop, aNever, aC, aBin, aBinR, aUn, aTst, aChain, aNot, aAnd, aOr, aIfE, aAndV, aOrV, aNotV, aNil, aCons, aTup, aLst, aCall1, aCallD, aIx, aApp, aExt, aSetIx, aTru, sLen, sAny, sAll, sSum, sList, sTuple, fI, fC, fB, aSeqI, aRng1, aFor, aFrz, gN, aUnp, aLc, aYes, aCall, aRep, aRgT, turn, wipeA, br_true, br_false, List.map_nil, List.map_cons, List.nil_append, List.cons_append, List.replicate, List.getElem?_cons_zero, List.getElem?_cons_succ, List.set_cons_zero, List.set_cons_succ, List.length_cons, List.length_nil, enS_list, enS_tup, aNotT, aEnum, aRev, aAugD, sLt_int, sLt_ints, sRepT_tup, aCall2, sIsB_eq, sNotB_eq, aDnew, aSortD, ownD_own, aSda, aTupD, datAt_dat, sAllD, aSortSetI, isN_int, notN_int, sIn_int, sNotIn_int, sEq_int, sNe_int, sEq_bool, sNe_bool, sEq_str, aSeq]
    have h0 : 0 < rows.length := List.length_pos_iff.mpr hT.ne
    have e0 : atI (rows.map tI) 0 = some (tI rows[0]) := atI_map tI h0
    have hw := hT.wid rows[0] (List.getElem_mem h0)
    have rne : (!rows.isEmpty) = true := by
      cases rows with
      | nil => exact absurd rfl hT.ne
      | cons a b => rfl
    have b0 : decide ((q.length : Int) = (rows[0].length : Int)) = true := decide_eq_true (by rw [hw, hq])
    simp only [emp_map, rne, e0, tI, List.length_map, b0, Bool.not_true, aName_eq, nm_dat, nm_own, dd_dat, dd_own, bb_bool, arg_dat, arg_own, arg_ali, das_nil, das_dat, cont_list, cont_tup, cont_own, cont_ali, contS_own, ownL_own, ownO_own, stor_dat, stor_own, iD_int, ii_int, i1_int, sAddU_int, sAddU_tup, truS_none, truS_bool, truS_int, truS_list, truS_tup, truS_ali, srcOf_list, srcOf_tup, srcOf_ali, Ab.got_some, gZ_nil, gC_cons, gT_tup, onlyDat_dat, notAli_dat, notAli_own, getO_some, fin_none, fin_some, finO_own, callA_nil, callA_dat, callA_ali, argS_none, argS_some, rt_ad, nx_ad, isN_none, isN_tup, notN_none, notN_tup, aNx, aRet, aIf, aSet, aAug, aDrop, aNever, aC, aBin, aBinR, aUn, aTst, aChain, aNot, aAnd, aOr, aIfE, aAndV, aOrV, aNotV, aNil, aCons, aTup, aLst, aCall1, aCallD, aIx, aApp, aExt, aSetIx, aTru, sLen, sAny, sAll, sSum, sList, sTuple, fI, fC, fB, aSeqI, aRng1, aFor, aFrz, gN, aUnp, aLc, aYes, aCall, aRep, aRgT, turn, wipeA, br_true, br_false, List.map_nil, List.map_cons, List.nil_append, List.cons_append, List.replicate, List.getElem?_cons_zero, List.getElem?_cons_succ, List.set_cons_zero, List.set_cons_succ, List.length_cons, List.length_nil, enS_list, enS_tup, aNotT, aEnum, aRev, aAugD, sLt_int, sLt_ints, sRepT_tup, aCall2, sIsB_eq, sNotB_eq, aDnew, aSortD, ownD_own, aSda, aTupD, datAt_dat, sAllD, aSortSetI, isN_int, notN_int, sIn_int, sNotIn_int, sEq_int, sNe_int, sEq_bool, sNe_bool, sEq_str, aSeq]
    exact k
end
end K69

set_option maxHeartbeats 4000000
namespace K69
open PySem PySem.Spec PyProof.Rows L2 Ab
theorem alikeAll_ints (ns : List Int) : PySem.W.AlikeAll (ns.map PyData.int) := ⟨fun x hx y hy => by
  obtain ⟨a, _, rfl⟩ := List.mem_map.mp hx
  obtain ⟨b, _, rfl⟩ := List.mem_map.mp hy
  rfl, fun x hx => by
  obtain ⟨a, _, rfl⟩ := List.mem_map.mp hx
  exact fun z => nomatch z⟩
theorem depth_ints0 (ns : List Int) : PyData.depthAll (ns.map PyData.int) = 0 := Nat.le_zero.mp (depthAll_le (n := 0) (fun _ => Nat.le_refl _) ns)
theorem sMin_ints {b : Bool} {x : Int} {xs : List Int} {k : AV → Prop} (hk : k (.dat (.int (xs.foldl min x)))) : sBest PySem.W.minD b (.int x :: xs.map PyData.int) k :=
  ⟨alikeAll_ints (x :: xs), by rw [show PyData.int x :: xs.map PyData.int = (x :: xs).map PyData.int from rfl, depth_ints0]; exact Nat.zero_le _, by rw [PySem.W.minD_ints]; exact hk⟩
theorem sMax_ints {b : Bool} {x : Int} {xs : List Int} {k : AV → Prop} (hk : k (.dat (.int (xs.foldl max x)))) : sBest PySem.W.maxD b (.int x :: xs.map PyData.int) k :=
  ⟨alikeAll_ints (x :: xs), by rw [show PyData.int x :: xs.map PyData.int = (x :: xs).map PyData.int from rfl, depth_ints0]; exact Nat.zero_le _, by rw [PySem.W.maxD_ints]; exact hk⟩
theorem sMin_col {b : Bool} {c : Int} {g : List Row} {k : AV → Prop} (h : g ≠ []) (hk : k (.dat (.int (minC c g)))) : sBest PySem.W.minD b (g.map fun r => PyData.int (col c r)) k := by
  cases g with
  | nil => exact absurd rfl h
  | cons r g =>
    rw [show ((r :: g).map fun r => PyData.int (col c r)) = PyData.int (col c r) :: (g.map (col c)).map PyData.int by rw [List.map_cons, List.map_map]; rfl]
    exact sMin_ints hk
theorem sMax_col {b : Bool} {c : Int} {g : List Row} {k : AV → Prop} (h : g ≠ []) (hk : k (.dat (.int (maxC c g)))) : sBest PySem.W.maxD b (g.map fun r => PyData.int (col c r)) k := by
  cases g with
  | nil => exact absurd rfl h
  | cons r g =>
    rw [show ((r :: g).map fun r => PyData.int (col c r)) = PyData.int (col c r) :: (g.map (col c)).map PyData.int by rw [List.map_cons, List.map_map]; rfl]
    exact sMax_ints hk
section
variable {P : Program} {w : World} {K : PySem.W.Frag} {mg : Str → Option Value} {base : Heap}
theorem ok_is_sure (D : Defs K mg) : FnOk P w K mg base CX0 3 D.f_is_sure D.fd_is_sure ["rows", "key", "question"] (toSp K sp_is_sure) := by
  have G_check_question : FnOk P w K mg base CX0 2 D.f_check_question D.fd_check_question ["rows", "key", "question"] (toSp K sp_check_question) := ok_check_question D
  have G_groups_of : FnOk P w K mg base CX0 1 D.f_groups_of D.fd_groups_of ["rows", "key"] (toSp K sp_groups_of) := ok_groups_of D
  have G_fits : FnOk P w K mg base CX0 1 D.f_fits D.fd_fits ["question", "row"] (toSp K sp_fits) := ok_fits D
  refine ok_def D.F_is_sure sc_is_sure (fun oo ds Kc h => ?_) (fun cdv A outer s H E hr =>
      (ss_cons (s_expr (e_call G_check_question (hr.mono (by decide)) (by rfl) D.g_check_question D.F_check_question.kp D.n_check_question (x_cons (e_name (pv 0)) (x_cons (e_name (pv 1)) (x_cons (e_name (pv 2)) x_nil)))))
      (ss_cons (s_set (ps_set (i := 3) sc_is_sure.nd rfl (.inl rfl) (e_lst x_nil)))
      (ss_cons (s_for PassesOwn.never rfl (i_enum (by rfl) D.b_enumerate (e_call G_groups_of (hr.mono (by decide)) (by rfl) D.g_groups_of D.F_groups_of.kp D.n_groups_of (x_cons (e_name (pv 0)) (x_cons (e_name (pv 1)) x_nil)))) (g_tup (pg_tup (n := 2) rfl (gs_cons (g_name (pg_name (i := 4) sc_is_sure.nd rfl (.inl rfl))) (gs_cons (g_name (pg_name (i := 5) sc_is_sure.nd rfl (.inl rfl))) gs_nil)))) (ss_cons (s_setLc (i := 6) (own := [("row", 7)]) rfl sc_is_sure.nd rfl rfl (sw_true rfl rfl rfl (by decide +kernel)) (i_seq (e_name (pv 5))) (blkOk_by (by kernel_rfl)) (fun _ _ _ _ _ => (g_name (pg_name (i := 7) sc_is_sure.nd rfl (by first | exact Or.inl rfl | exact Or.inr rfl)))) (fun _ _ _ _ _ => (ts_one (t_not (t_truth (e_call G_fits (hr.mono (by decide)) (by rfl) D.g_fits D.F_fits.kp D.n_fits (x_cons (e_name (pv 2)) (x_cons (e_name (pv 7)) x_nil))))))) (fun _ _ _ _ _ => (e_name (pv 7))))
      (ss_cons (s_if (t_not (t_truth (e_name (pv 6)))) (ss_one (s_ret (e_tup (x_cons e_str (x_cons (e_name (pv 4)) x_nil))))) ss_nil)
      (ss_one (s_app (pe_append (pv 3) (e_ix (e_name (pv 6)) e_int)))))))
      (ss_one (s_ret (e_tup (x_cons e_str (x_cons (e_callTy call_tuple_of dc_tuple (by rfl) D.b_tuple boot_tuple (e_name (pv 3))) x_nil))))))))) (fun oo ds Kc h => ?_)
  · obtain ⟨wd, rows, key, q, rfl, rfl, _⟩ := h
    rfl
  · obtain ⟨wd, rows, key, q, rfl, rfl, hT, hq, k⟩ := h
    simp only [aName_eq, nm_dat, nm_own, dd_dat, dd_own, bb_bool, arg_dat, arg_own, arg_ali, das_nil, das_dat, cont_list, cont_tup, cont_own, cont_ali, contS_own, ownL_own, ownO_own, stor_dat, stor_own, iD_int, ii_int, i1_int, sAddU_int, sAddU_tup, truS_none, truS_bool, truS_int, truS_list, truS_tup, truS_ali, srcOf_list, srcOf_tup, srcOf_ali, Ab.got_some, gZ_nil, gC_cons, gT_tup, onlyDat_dat, notAli_dat, notAli_own, getO_some, fin_none, fin_some, finO_own, callA_nil, callA_dat, callA_ali, argS_none, argS_some, rt_ad, nx_ad, isN_none, isN_tup, notN_none, notN_tup, aNx, aRet, aIf, aSet, aAug, aDrop, aNever, aC, aBin, aBinR, aUn, aTst, aChain, aNot, aAnd, aOr, aIfE, aAndV, aOrV, aNotV, aNil, aCons, aTup, aLst, aCall1, aCallD, aIx, aApp, aExt, aSetIx, aTru, sLen, sAny, sAll, sSum, sList, sTuple, fI, fC, fB, aSeqI, aRng1, aFor, aFrz, gN, aUnp, aLc, aYes, aCall, aRep, aRgT, turn, wipeA, br_true, br_false, List.map_nil, List.map_cons, List.nil_append, List.cons_append, List.replicate, List.getElem?_cons_zero, List.getElem?_cons_succ, List.set_cons_zero, List.set_cons_succ, List.length_cons, List.length_nil, enS_list, enS_tup, aNotT, aEnum, aRev, aAugD, sLt_int, sLt_ints, sRepT_tup, aCall2, sIsB_eq, sNotB_eq, aDnew, aSortD, ownD_own, aSda, aTupD, datAt_dat, sAllD, aSortSetI, isN_int, notN_int, sIn_int, sNotIn_int, sEq_int, sNe_int, sEq_bool, sNe_bool, sEq_str, aSeq]
    refine ⟨wd, rows, key, q, rfl, rfl, hT, hq, rfl, small_le (by decide), wd, rows, key, rfl, rfl, hT, ?_⟩
    simp only [aName_eq, nm_dat, nm_own, dd_dat, dd_own, bb_bool, arg_dat, arg_own, arg_ali, das_nil, das_dat, cont_list, cont_tup, cont_own, cont_ali, contS_own, ownL_own, ownO_own, stor_dat, stor_own, iD_int, ii_int, i1_int, sAddU_int, sAddU_tup, truS_none, truS_bool, truS_int, truS_list, truS_tup, truS_ali, srcOf_list, srcOf_tup, srcOf_ali, Ab.got_some, gZ_nil, gC_cons, gT_tup, onlyDat_dat, notAli_dat, notAli_own, getO_some, fin_none, fin_some, finO_own, callA_nil, callA_dat, callA_ali, argS_none, argS_some, rt_ad, nx_ad, isN_none, isN_tup, notN_none, notN_tup, aNx, aRet, aIf, aSet, aAug, aDrop, aNever, aC, aBin, aBinR, aUn, aTst, aChain, aNot, aAnd, aOr, aIfE, aAndV, aOrV, aNotV, aNil, aCons, aTup, aLst, aCall1, aCallD, aIx, aApp, aExt, aSetIx, aTru, sLen, sAny, sAll, sSum, sList, sTuple, fI, fC, fB, aSeqI, aRng1, aFor, aFrz, gN, aUnp, aLc, aYes, aCall, aRep, aRgT, turn, wipeA, br_true, br_false, List.map_nil, List.map_cons, List.nil_append, List.cons_append, List.replicate, List.getElem?_cons_zero, List.getElem?_cons_succ, List.set_cons_zero, List.set_cons_succ, List.length_cons, List.length_nil, enS_list, enS_tup, aNotT, aEnum, aRev, aAugD, sLt_int, sLt_ints, sRepT_tup, aCall2, sIsB_eq, sNotB_eq, aDnew, aSortD, ownD_own, aSda, aTupD, datAt_dat, sAllD, aSortSetI, isN_int, notN_int, sIn_int, sNotIn_int, sEq_int, sNe_int, sEq_bool, sNe_bool, sEq_str, aSeq]
    have hgl := groups_len hT
    have hw6 := hT.w6
    refine ⟨trivial, trivial, fun _ => trivial, ?_⟩
    rw [enumD_map]
    refine for_inv (enc := fun (p : Nat × List Row) => PyData.tuple [.int (p.1 : Nat), eR p.2]) (xs := enumL 0 (groupsF rows key)) (fun pre ρ => (∀ p ∈ pre, (left q p.2).isEmpty = false) ∧ ∃ x4 x5 x6, ρ = [some (.dat (eR rows)), some (.dat (tI key)), some (.dat (eQ q)), some (.own none (.lst (pre.map fun p => tI ((left q p.2).getD 0 [])))), x4, x5, x6, none]) ⟨fun _ z => (nomatch z), none, none, none, rfl⟩ ?_ ?_
    · rintro pre ⟨i, g⟩ post e ρ ⟨hp, x4, x5, x6, rfl⟩ Kn kn
      have hgm : g ∈ groupsF rows key := by
        rw [← enumL_snd (groupsF rows key) 0, e]
        simp
      have hg := groups_ok hT g hgm
      have hgf := hg.few
      have hpl : pre.length ≤ 40 := by
        have z := congrArg List.length e
        rw [enumL_len, List.length_append] at z
        omega
      simp only [eR, aName_eq, nm_dat, nm_own, dd_dat, dd_own, bb_bool, arg_dat, arg_own, arg_ali, das_nil, das_dat, cont_list, cont_tup, cont_own, cont_ali, contS_own, ownL_own, ownO_own, stor_dat, stor_own, iD_int, ii_int, i1_int, sAddU_int, sAddU_tup, truS_none, truS_bool, truS_int, truS_list, truS_tup, truS_ali, srcOf_list, srcOf_tup, srcOf_ali, Ab.got_some, gZ_nil, gC_cons, gT_tup, onlyDat_dat, notAli_dat, notAli_own, getO_some, fin_none, fin_some, finO_own, callA_nil, callA_dat, callA_ali, argS_none, argS_some, rt_ad, nx_ad, isN_none, isN_tup, notN_none, notN_tup, aNx, aRet, aIf, aSet, aAug, aDrop, aNever, aC, aBin, aBinR, aUn, aTst, aChain, aNot, aAnd, aOr, aIfE, aAndV, aOrV, aNotV, aNil, aCons, aTup, aLst, aCall1, aCallD, aIx, aApp, aExt, aSetIx, aTru, sLen, sAny, sAll, sSum, sList, sTuple, fI, fC, fB, aSeqI, aRng1, aFor, aFrz, gN, aUnp, aLc, aYes, aCall, aRep, aRgT, turn, wipeA, br_true, br_false, List.map_nil, List.map_cons, List.nil_append, List.cons_append, List.replicate, List.getElem?_cons_zero, List.getElem?_cons_succ, List.set_cons_zero, List.set_cons_succ, List.length_cons, List.length_nil, enS_list, enS_tup, aNotT, aEnum, aRev, aAugD, sLt_int, sLt_ints, sRepT_tup, aCall2, sIsB_eq, sNotB_eq, aDnew, aSortD, ownD_own, aSda, aTupD, datAt_dat, sAllD, aSortSetI, isN_int, notN_int, sIn_int, sNotIn_int, sEq_int, sNe_int, sEq_bool, sNe_bool, sEq_str, aSeq]
      refine ⟨trivial, ?_⟩
      refine lc_pure (enc := tI) (fun r => !fitsF q r) tI trivial (by simp [Ab.freeOf]) (small_len (by omega)) (fun r hr Ka Ks ka ks => ?_) ?_
      · have hrw := hg.wid r hr
        simp only [aName_eq, nm_dat, nm_own, dd_dat, dd_own, bb_bool, arg_dat, arg_own, arg_ali, das_nil, das_dat, cont_list, cont_tup, cont_own, cont_ali, contS_own, ownL_own, ownO_own, stor_dat, stor_own, iD_int, ii_int, i1_int, sAddU_int, sAddU_tup, truS_none, truS_bool, truS_int, truS_list, truS_tup, truS_ali, srcOf_list, srcOf_tup, srcOf_ali, Ab.got_some, gZ_nil, gC_cons, gT_tup, onlyDat_dat, notAli_dat, notAli_own, getO_some, fin_none, fin_some, finO_own, callA_nil, callA_dat, callA_ali, argS_none, argS_some, rt_ad, nx_ad, isN_none, isN_tup, notN_none, notN_tup, aNx, aRet, aIf, aSet, aAug, aDrop, aNever, aC, aBin, aBinR, aUn, aTst, aChain, aNot, aAnd, aOr, aIfE, aAndV, aOrV, aNotV, aNil, aCons, aTup, aLst, aCall1, aCallD, aIx, aApp, aExt, aSetIx, aTru, sLen, sAny, sAll, sSum, sList, sTuple, fI, fC, fB, aSeqI, aRng1, aFor, aFrz, gN, aUnp, aLc, aYes, aCall, aRep, aRgT, turn, wipeA, br_true, br_false, List.map_nil, List.map_cons, List.nil_append, List.cons_append, List.replicate, List.getElem?_cons_zero, List.getElem?_cons_succ, List.set_cons_zero, List.set_cons_succ, List.length_cons, List.length_nil, enS_list, enS_tup, aNotT, aEnum, aRev, aAugD, sLt_int, sLt_ints, sRepT_tup, aCall2, sIsB_eq, sNotB_eq, aDnew, aSortD, ownD_own, aSda, aTupD, datAt_dat, sAllD, aSortSetI, isN_int, notN_int, sIn_int, sNotIn_int, sEq_int, sNe_int, sEq_bool, sNe_bool, sEq_str, aSeq]
        exact ⟨q, r, rfl, rfl, by omega, by omega, rfl, ka, ks⟩
      · have el : g.filter (fun r => !fitsF q r) = left q g := rfl
        simp only [el, emp_map, aName_eq, nm_dat, nm_own, dd_dat, dd_own, bb_bool, arg_dat, arg_own, arg_ali, das_nil, das_dat, cont_list, cont_tup, cont_own, cont_ali, contS_own, ownL_own, ownO_own, stor_dat, stor_own, iD_int, ii_int, i1_int, sAddU_int, sAddU_tup, truS_none, truS_bool, truS_int, truS_list, truS_tup, truS_ali, srcOf_list, srcOf_tup, srcOf_ali, Ab.got_some, gZ_nil, gC_cons, gT_tup, onlyDat_dat, notAli_dat, notAli_own, getO_some, fin_none, fin_some, finO_own, callA_nil, callA_dat, callA_ali, argS_none, argS_some, rt_ad, nx_ad, isN_none, isN_tup, notN_none, notN_tup, aNx, aRet, aIf, aSet, aAug, aDrop, aNever, aC, aBin, aBinR, aUn, aTst, aChain, aNot, aAnd, aOr, aIfE, aAndV, aOrV, aNotV, aNil, aCons, aTup, aLst, aCall1, aCallD, aIx, aApp, aExt, aSetIx, aTru, sLen, sAny, sAll, sSum, sList, sTuple, fI, fC, fB, aSeqI, aRng1, aFor, aFrz, gN, aUnp, aLc, aYes, aCall, aRep, aRgT, turn, wipeA, br_true, br_false, List.map_nil, List.map_cons, List.nil_append, List.cons_append, List.replicate, List.getElem?_cons_zero, List.getElem?_cons_succ, List.set_cons_zero, List.set_cons_succ, List.length_cons, List.length_nil, enS_list, enS_tup, aNotT, aEnum, aRev, aAugD, sLt_int, sLt_ints, sRepT_tup, aCall2, sIsB_eq, sNotB_eq, aDnew, aSortD, ownD_own, aSda, aTupD, datAt_dat, sAllD, aSortSetI, isN_int, notN_int, sIn_int, sNotIn_int, sEq_int, sNe_int, sEq_bool, sNe_bool, sEq_str, aSeq]
        refine ⟨fun hh => ?_, fun hh => ?_⟩
        · have hh : (left q g).isEmpty = true := by simpa using hh
          refine ⟨small_le (by decide), ?_⟩
          have : sureF q (groupsF rows key) 0 = .tuple [sv "sure", .int (i : Nat)] := by
            unfold sureF
            rw [e, find_none (a := (i, g)) hp hh]
          rw [this] at k
          exact k
        · have hh : (left q g).isEmpty = false := by simpa using hh
          have hl : 0 < (left q g).length := by
            cases z : left q g with
            | nil => rw [z] at hh; cases hh
            | cons a b => simp
          have ea : atI ((left q g).map tI) 0 = some (tI ((left q g).getD 0 [])) := by
            have z := atI_map tI hl
            rw [getD_mem hl]
            exact z
          simp only [ea, List.length_map, aName_eq, nm_dat, nm_own, dd_dat, dd_own, bb_bool, arg_dat, arg_own, arg_ali, das_nil, das_dat, cont_list, cont_tup, cont_own, cont_ali, contS_own, ownL_own, ownO_own, stor_dat, stor_own, iD_int, ii_int, i1_int, sAddU_int, sAddU_tup, truS_none, truS_bool, truS_int, truS_list, truS_tup, truS_ali, srcOf_list, srcOf_tup, srcOf_ali, Ab.got_some, gZ_nil, gC_cons, gT_tup, onlyDat_dat, notAli_dat, notAli_own, getO_some, fin_none, fin_some, finO_own, callA_nil, callA_dat, callA_ali, argS_none, argS_some, rt_ad, nx_ad, isN_none, isN_tup, notN_none, notN_tup, aNx, aRet, aIf, aSet, aAug, aDrop, aNever, aC, aBin, aBinR, aUn, aTst, aChain, aNot, aAnd, aOr, aIfE, aAndV, aOrV, aNotV, aNil, aCons, aTup, aLst, aCall1, aCallD, aIx, aApp, aExt, aSetIx, aTru, sLen, sAny, sAll, sSum, sList, sTuple, fI, fC, fB, aSeqI, aRng1, aFor, aFrz, gN, aUnp, aLc, aYes, aCall, aRep, aRgT, turn, wipeA, br_true, br_false, List.map_nil, List.map_cons, List.nil_append, List.cons_append, List.replicate, List.getElem?_cons_zero, List.getElem?_cons_succ, List.set_cons_zero, List.set_cons_succ, List.length_cons, List.length_nil, enS_list, enS_tup, aNotT, aEnum, aRev, aAugD, sLt_int, sLt_ints, sRepT_tup, aCall2, sIsB_eq, sNotB_eq, aDnew, aSortD, ownD_own, aSda, aTupD, datAt_dat, sAllD, aSortSetI, isN_int, notN_int, sIn_int, sNotIn_int, sEq_int, sNe_int, sEq_bool, sNe_bool, sEq_str, aSeq]
          refine ⟨small_len (by omega), kn _ ⟨fun p hpm => (List.mem_append.mp hpm).elim (hp p) fun z => by rw [List.mem_singleton.mp z]; exact hh, some (.dat (.int (i : Nat))), some (.dat (eR g)), some (.own none (.lst ((left q g).map tI))), ?_⟩⟩
          rw [List.map_append]
          rfl
    · rintro ρ ⟨hp, x4, x5, x6, rfl⟩
      simp only [aName_eq, nm_dat, nm_own, dd_dat, dd_own, bb_bool, arg_dat, arg_own, arg_ali, das_nil, das_dat, cont_list, cont_tup, cont_own, cont_ali, contS_own, ownL_own, ownO_own, stor_dat, stor_own, iD_int, ii_int, i1_int, sAddU_int, sAddU_tup, truS_none, truS_bool, truS_int, truS_list, truS_tup, truS_ali, srcOf_list, srcOf_tup, srcOf_ali, Ab.got_some, gZ_nil, gC_cons, gT_tup, onlyDat_dat, notAli_dat, notAli_own, getO_some, fin_none, fin_some, finO_own, callA_nil, callA_dat, callA_ali, argS_none, argS_some, rt_ad, nx_ad, isN_none, isN_tup, notN_none, notN_tup, aNx, aRet, aIf, aSet, aAug, aDrop, aNever, aC, aBin, aBinR, aUn, aTst, aChain, aNot, aAnd, aOr, aIfE, aAndV, aOrV, aNotV, aNil, aCons, aTup, aLst, aCall1, aCallD, aIx, aApp, aExt, aSetIx, aTru, sLen, sAny, sAll, sSum, sList, sTuple, fI, fC, fB, aSeqI, aRng1, aFor, aFrz, gN, aUnp, aLc, aYes, aCall, aRep, aRgT, turn, wipeA, br_true, br_false, List.map_nil, List.map_cons, List.nil_append, List.cons_append, List.replicate, List.getElem?_cons_zero, List.getElem?_cons_succ, List.set_cons_zero, List.set_cons_succ, List.length_cons, List.length_nil, enS_list, enS_tup, aNotT, aEnum, aRev, aAugD, sLt_int, sLt_ints, sRepT_tup, aCall2, sIsB_eq, sNotB_eq, aDnew, aSortD, ownD_own, aSda, aTupD, datAt_dat, sAllD, aSortSetI, isN_int, notN_int, sIn_int, sNotIn_int, sEq_int, sNe_int, sEq_bool, sNe_bool, sEq_str, aSeq]
      refine ⟨small_le (by decide), ?_⟩
      have : sureF q (groupsF rows key) 0 = .tuple [sv "not", eR ((groupsF rows key).map fun g => (left q g).getD 0 [])] := by
        unfold sureF
        rw [List.find?_eq_none.mpr fun p hpm => by rw [hp p hpm]; simp]
      rw [this] at k
      have e2 : ((enumL 0 (groupsF rows key)).map fun p => tI ((left q p.2).getD 0 [])) = ((groupsF rows key).map fun g => (left q g).getD 0 []).map tI := by
        have z := enumL_snd (groupsF rows key) 0
        generalize enumL 0 (groupsF rows key) = L at z
        rw [← z, List.map_map, List.map_map]
        rfl
      rw [e2]
      exact k
theorem ok_sums (D : Defs K mg) : FnOk P w K mg base CX0 2 D.f_sums D.fd_sums ["rows", "key", "column"] (toSp K sp_sums) := by
  have G_check_broken : FnOk P w K mg base CX0 1 D.f_check_broken D.fd_check_broken ["rows", "key"] (toSp K sp_check_broken) := ok_check_broken D
  have G_groups_of : FnOk P w K mg base CX0 1 D.f_groups_of D.fd_groups_of ["rows", "key"] (toSp K sp_groups_of) := ok_groups_of D
  refine ok_def D.F_sums sc_sums (fun oo ds Kc h => ?_) (fun cdv A outer s H E hr =>
      (ss_cons (s_expr (e_call G_check_broken (hr.mono (by decide)) (by rfl) D.g_check_broken D.F_check_broken.kp D.n_check_broken (x_cons (e_name (pv 0)) (x_cons (e_name (pv 1)) x_nil))))
      (ss_cons (s_if (t_w (w_andC (t_truth (e_name (pv 0))) (w_and1 (t_not (t_chain op_le dr_b op_lt dr_b e_int (e_name (pv 2)) (e_callB call_len_seq dc_len (by rfl) D.b_len PySem.boot_len (e_ix (e_name (pv 0)) e_int))))))) ss_never ss_nil)
      (ss_cons (s_set (ps_set (i := 3) sc_sums.nd rfl (.inl rfl) (e_call G_groups_of (hr.mono (by decide)) (by rfl) D.g_groups_of D.F_groups_of.kp D.n_groups_of (x_cons (e_name (pv 0)) (x_cons (e_name (pv 1)) x_nil)))))
      (ss_cons (s_set (ps_set (i := 4) sc_sums.nd rfl (.inl rfl) (e_callB (cr_sum2 rfl) dc_sum (by rfl) D.b_sum boot_sum (e_lc (own := [("group", 6)]) rfl sc_sums.nd (i_seq (e_name (pv 3))) (blkOk_by (by kernel_rfl)) (fun _ _ _ _ _ => (g_name (pg_name (i := 6) sc_sums.nd rfl (by first | exact Or.inl rfl | exact Or.inr rfl)))) (fun _ _ _ _ _ => ts_nil) (fun _ _ _ _ _ => (e_callB (cr_minD rfl hr.units) dc_best (by rfl) D.b_min boot_min (e_lc (own := [("row", 5)]) rfl sc_sums.nd (i_seq (e_name (pv 6))) (blkOk_by (by kernel_rfl)) (fun _ _ _ _ _ => (g_name (pg_name (i := 5) sc_sums.nd rfl (by first | exact Or.inl rfl | exact Or.inr rfl)))) (fun _ _ _ _ _ => ts_nil) (fun _ _ _ _ _ => (e_ix (e_name (pv 5)) (e_name (pv 2)))))))))))
      (ss_one (s_ret (e_tup (x_cons (e_name (pv 4)) (x_cons (e_callB (cr_sum2 rfl) dc_sum (by rfl) D.b_sum boot_sum (e_lc (own := [("group", 6)]) rfl sc_sums.nd (i_seq (e_name (pv 3))) (blkOk_by (by kernel_rfl)) (fun _ _ _ _ _ => (g_name (pg_name (i := 6) sc_sums.nd rfl (by first | exact Or.inl rfl | exact Or.inr rfl)))) (fun _ _ _ _ _ => ts_nil) (fun _ _ _ _ _ => (e_callB (cr_maxD rfl hr.units) dc_best (by rfl) D.b_max boot_max (e_lc (own := [("row", 5)]) rfl sc_sums.nd (i_seq (e_name (pv 6))) (blkOk_by (by kernel_rfl)) (fun _ _ _ _ _ => (g_name (pg_name (i := 5) sc_sums.nd rfl (by first | exact Or.inl rfl | exact Or.inr rfl)))) (fun _ _ _ _ _ => ts_nil) (fun _ _ _ _ _ => (e_ix (e_name (pv 5)) (e_name (pv 2))))))))) x_nil)))))))))) (fun oo ds Kc h => ?_)
  · obtain ⟨wd, rows, key, c, rfl, rfl, _⟩ := h
    rfl
  · obtain ⟨wd, rows, key, c, rfl, rfl, hT, c0, c1, k⟩ := h
    simp only [aName_eq, nm_dat, nm_own, dd_dat, dd_own, bb_bool, arg_dat, arg_own, arg_ali, das_nil, das_dat, cont_list, cont_tup, cont_own, cont_ali, contS_own, ownL_own, ownO_own, stor_dat, stor_own, iD_int, ii_int, i1_int, sAddU_int, sAddU_tup, truS_none, truS_bool, truS_int, truS_list, truS_tup, truS_ali, srcOf_list, srcOf_tup, srcOf_ali, Ab.got_some, gZ_nil, gC_cons, gT_tup, onlyDat_dat, notAli_dat, notAli_own, getO_some, fin_none, fin_some, finO_own, callA_nil, callA_dat, callA_ali, argS_none, argS_some, rt_ad, nx_ad, isN_none, isN_tup, notN_none, notN_tup, aNx, aRet, aIf, aSet, aAug, aDrop, aNever, aC, aBin, aBinR, aUn, aTst, aChain, aNot, aAnd, aOr, aIfE, aAndV, aOrV, aNotV, aNil, aCons, aTup, aLst, aCall1, aCallD, aIx, aApp, aExt, aSetIx, aTru, sLen, sAny, sAll, sSum, sList, sTuple, fI, fC, fB, aSeqI, aRng1, aFor, aFrz, gN, aUnp, aLc, aYes, aCall, aRep, aRgT, turn, wipeA, br_true, br_false, List.map_nil, List.map_cons, List.nil_append, List.cons_append, List.replicate, List.getElem?_cons_zero, List.getElem?_cons_succ, List.set_cons_zero, List.set_cons_succ, List.length_cons, List.length_nil, enS_list, enS_tup, aNotT, aEnum, aRev, aAugD, sLt_int, sLt_ints, sRepT_tup, aCall2, sIsB_eq, sNotB_eq, aDnew, aSortD, ownD_own, aSda, aTupD, datAt_dat, sAllD, aSortSetI, isN_int, notN_int, sIn_int, sNotIn_int, sEq_int, sNe_int, sEq_bool, sNe_bool, sEq_str, aSeq]
    refine ⟨wd, rows, key, rfl, rfl, hT, rfl, ?_⟩
    have h0 : 0 < rows.length := List.length_pos_iff.mpr hT.ne
    have e0 : atI (rows.map tI) 0 = some (tI rows[0]) := atI_map tI h0
    have hw := hT.wid rows[0] (List.getElem_mem h0)
    have rne : (!rows.isEmpty) = true := by
      cases rows with
      | nil => exact absurd rfl hT.ne
      | cons a b => rfl
    have b0 : decide (0 ≤ c) = true := decide_eq_true c0
    have b1 : decide (c < (rows[0].length : Int)) = true := decide_eq_true (by rw [hw]; exact c1)
    have hgl := groups_len hT
    have colq : ∀ r : Row, r.length = wd → atI (r.map PyData.int) c = some (.int (col c r)) := fun r hr => atI_nn c0 (by omega)
    have mm : ∀ f : List Row → Int, ((groupsF rows key).map fun g => PyData.int (f g)) = ((groupsF rows key).map f).map PyData.int := fun f => by rw [List.map_map]; rfl
    simp only [emp_map, rne, b0, e0, tI, List.length_map, b1, Bool.not_true, aName_eq, nm_dat, nm_own, dd_dat, dd_own, bb_bool, arg_dat, arg_own, arg_ali, das_nil, das_dat, cont_list, cont_tup, cont_own, cont_ali, contS_own, ownL_own, ownO_own, stor_dat, stor_own, iD_int, ii_int, i1_int, sAddU_int, sAddU_tup, truS_none, truS_bool, truS_int, truS_list, truS_tup, truS_ali, srcOf_list, srcOf_tup, srcOf_ali, Ab.got_some, gZ_nil, gC_cons, gT_tup, onlyDat_dat, notAli_dat, notAli_own, getO_some, fin_none, fin_some, finO_own, callA_nil, callA_dat, callA_ali, argS_none, argS_some, rt_ad, nx_ad, isN_none, isN_tup, notN_none, notN_tup, aNx, aRet, aIf, aSet, aAug, aDrop, aNever, aC, aBin, aBinR, aUn, aTst, aChain, aNot, aAnd, aOr, aIfE, aAndV, aOrV, aNotV, aNil, aCons, aTup, aLst, aCall1, aCallD, aIx, aApp, aExt, aSetIx, aTru, sLen, sAny, sAll, sSum, sList, sTuple, fI, fC, fB, aSeqI, aRng1, aFor, aFrz, gN, aUnp, aLc, aYes, aCall, aRep, aRgT, turn, wipeA, br_true, br_false, List.map_nil, List.map_cons, List.nil_append, List.cons_append, List.replicate, List.getElem?_cons_zero, List.getElem?_cons_succ, List.set_cons_zero, List.set_cons_succ, List.length_cons, List.length_nil, enS_list, enS_tup, aNotT, aEnum, aRev, aAugD, sLt_int, sLt_ints, sRepT_tup, aCall2, sIsB_eq, sNotB_eq, aDnew, aSortD, ownD_own, aSda, aTupD, datAt_dat, sAllD, aSortSetI, isN_int, notN_int, sIn_int, sNotIn_int, sEq_int, sNe_int, sEq_bool, sNe_bool, sEq_str, aSeq]
    refine ⟨wd, rows, key, rfl, rfl, hT, rfl, ?_⟩
    simp only [aName_eq, nm_dat, nm_own, dd_dat, dd_own, bb_bool, arg_dat, arg_own, arg_ali, das_nil, das_dat, cont_list, cont_tup, cont_own, cont_ali, contS_own, ownL_own, ownO_own, stor_dat, stor_own, iD_int, ii_int, i1_int, sAddU_int, sAddU_tup, truS_none, truS_bool, truS_int, truS_list, truS_tup, truS_ali, srcOf_list, srcOf_tup, srcOf_ali, Ab.got_some, gZ_nil, gC_cons, gT_tup, onlyDat_dat, notAli_dat, notAli_own, getO_some, fin_none, fin_some, finO_own, callA_nil, callA_dat, callA_ali, argS_none, argS_some, rt_ad, nx_ad, isN_none, isN_tup, notN_none, notN_tup, aNx, aRet, aIf, aSet, aAug, aDrop, aNever, aC, aBin, aBinR, aUn, aTst, aChain, aNot, aAnd, aOr, aIfE, aAndV, aOrV, aNotV, aNil, aCons, aTup, aLst, aCall1, aCallD, aIx, aApp, aExt, aSetIx, aTru, sLen, sAny, sAll, sSum, sList, sTuple, fI, fC, fB, aSeqI, aRng1, aFor, aFrz, gN, aUnp, aLc, aYes, aCall, aRep, aRgT, turn, wipeA, br_true, br_false, List.map_nil, List.map_cons, List.nil_append, List.cons_append, List.replicate, List.getElem?_cons_zero, List.getElem?_cons_succ, List.set_cons_zero, List.set_cons_succ, List.length_cons, List.length_nil, enS_list, enS_tup, aNotT, aEnum, aRev, aAugD, sLt_int, sLt_ints, sRepT_tup, aCall2, sIsB_eq, sNotB_eq, aDnew, aSortD, ownD_own, aSda, aTupD, datAt_dat, sAllD, aSortSetI, isN_int, notN_int, sIn_int, sNotIn_int, sEq_int, sNe_int, sEq_bool, sNe_bool, sEq_str, aSeq]
    refine lc_map (enc := eR) (fun g => .int (minC c g)) rfl (by simp [Ab.freeOf]) (small_len (by omega)) (fun g hg Ka Ks ka => ?_) ?_
    · have hG := groups_ok hT g hg
      have hgf := hG.few
      simp only [eR, aName_eq, nm_dat, nm_own, dd_dat, dd_own, bb_bool, arg_dat, arg_own, arg_ali, das_nil, das_dat, cont_list, cont_tup, cont_own, cont_ali, contS_own, ownL_own, ownO_own, stor_dat, stor_own, iD_int, ii_int, i1_int, sAddU_int, sAddU_tup, truS_none, truS_bool, truS_int, truS_list, truS_tup, truS_ali, srcOf_list, srcOf_tup, srcOf_ali, Ab.got_some, gZ_nil, gC_cons, gT_tup, onlyDat_dat, notAli_dat, notAli_own, getO_some, fin_none, fin_some, finO_own, callA_nil, callA_dat, callA_ali, argS_none, argS_some, rt_ad, nx_ad, isN_none, isN_tup, notN_none, notN_tup, aNx, aRet, aIf, aSet, aAug, aDrop, aNever, aC, aBin, aBinR, aUn, aTst, aChain, aNot, aAnd, aOr, aIfE, aAndV, aOrV, aNotV, aNil, aCons, aTup, aLst, aCall1, aCallD, aIx, aApp, aExt, aSetIx, aTru, sLen, sAny, sAll, sSum, sList, sTuple, fI, fC, fB, aSeqI, aRng1, aFor, aFrz, gN, aUnp, aLc, aYes, aCall, aRep, aRgT, turn, wipeA, br_true, br_false, List.map_nil, List.map_cons, List.nil_append, List.cons_append, List.replicate, List.getElem?_cons_zero, List.getElem?_cons_succ, List.set_cons_zero, List.set_cons_succ, List.length_cons, List.length_nil, enS_list, enS_tup, aNotT, aEnum, aRev, aAugD, sLt_int, sLt_ints, sRepT_tup, aCall2, sIsB_eq, sNotB_eq, aDnew, aSortD, ownD_own, aSda, aTupD, datAt_dat, sAllD, aSortSetI, isN_int, notN_int, sIn_int, sNotIn_int, sEq_int, sNe_int, sEq_bool, sNe_bool, sEq_str, aSeq]
      refine lc_map (enc := tI) (fun r => .int (col c r)) trivial (by simp [Ab.freeOf]) (small_len (by omega)) (fun r hr Kb Ks2 kb => ?_) ?_
      · simp only [tI, aName_eq, nm_dat, nm_own, dd_dat, dd_own, bb_bool, arg_dat, arg_own, arg_ali, das_nil, das_dat, cont_list, cont_tup, cont_own, cont_ali, contS_own, ownL_own, ownO_own, stor_dat, stor_own, iD_int, ii_int, i1_int, sAddU_int, sAddU_tup, truS_none, truS_bool, truS_int, truS_list, truS_tup, truS_ali, srcOf_list, srcOf_tup, srcOf_ali, Ab.got_some, gZ_nil, gC_cons, gT_tup, onlyDat_dat, notAli_dat, notAli_own, getO_some, fin_none, fin_some, finO_own, callA_nil, callA_dat, callA_ali, argS_none, argS_some, rt_ad, nx_ad, isN_none, isN_tup, notN_none, notN_tup, aNx, aRet, aIf, aSet, aAug, aDrop, aNever, aC, aBin, aBinR, aUn, aTst, aChain, aNot, aAnd, aOr, aIfE, aAndV, aOrV, aNotV, aNil, aCons, aTup, aLst, aCall1, aCallD, aIx, aApp, aExt, aSetIx, aTru, sLen, sAny, sAll, sSum, sList, sTuple, fI, fC, fB, aSeqI, aRng1, aFor, aFrz, gN, aUnp, aLc, aYes, aCall, aRep, aRgT, turn, wipeA, br_true, br_false, List.map_nil, List.map_cons, List.nil_append, List.cons_append, List.replicate, List.getElem?_cons_zero, List.getElem?_cons_succ, List.set_cons_zero, List.set_cons_succ, List.length_cons, List.length_nil, enS_list, enS_tup, aNotT, aEnum, aRev, aAugD, sLt_int, sLt_ints, sRepT_tup, aCall2, sIsB_eq, sNotB_eq, aDnew, aSortD, ownD_own, aSda, aTupD, datAt_dat, sAllD, aSortSetI, isN_int, notN_int, sIn_int, sNotIn_int, sEq_int, sNe_int, sEq_bool, sNe_bool, sEq_str, aSeq]
        rw [colq r (hG.wid r hr)]
        exact kb
      · refine sMin_col hG.ne ?_
        exact ka
    · simp only [mm, intsD_ints, aName_eq, nm_dat, nm_own, dd_dat, dd_own, bb_bool, arg_dat, arg_own, arg_ali, das_nil, das_dat, cont_list, cont_tup, cont_own, cont_ali, contS_own, ownL_own, ownO_own, stor_dat, stor_own, iD_int, ii_int, i1_int, sAddU_int, sAddU_tup, truS_none, truS_bool, truS_int, truS_list, truS_tup, truS_ali, srcOf_list, srcOf_tup, srcOf_ali, Ab.got_some, gZ_nil, gC_cons, gT_tup, onlyDat_dat, notAli_dat, notAli_own, getO_some, fin_none, fin_some, finO_own, callA_nil, callA_dat, callA_ali, argS_none, argS_some, rt_ad, nx_ad, isN_none, isN_tup, notN_none, notN_tup, aNx, aRet, aIf, aSet, aAug, aDrop, aNever, aC, aBin, aBinR, aUn, aTst, aChain, aNot, aAnd, aOr, aIfE, aAndV, aOrV, aNotV, aNil, aCons, aTup, aLst, aCall1, aCallD, aIx, aApp, aExt, aSetIx, aTru, sLen, sAny, sAll, sSum, sList, sTuple, fI, fC, fB, aSeqI, aRng1, aFor, aFrz, gN, aUnp, aLc, aYes, aCall, aRep, aRgT, turn, wipeA, br_true, br_false, List.map_nil, List.map_cons, List.nil_append, List.cons_append, List.replicate, List.getElem?_cons_zero, List.getElem?_cons_succ, List.set_cons_zero, List.set_cons_succ, List.length_cons, List.length_nil, enS_list, enS_tup, aNotT, aEnum, aRev, aAugD, sLt_int, sLt_ints, sRepT_tup, aCall2, sIsB_eq, sNotB_eq, aDnew, aSortD, ownD_own, aSda, aTupD, datAt_dat, sAllD, aSortSetI, isN_int, notN_int, sIn_int, sNotIn_int, sEq_int, sNe_int, sEq_bool, sNe_bool, sEq_str, aSeq]
      refine lc_map (enc := eR) (fun g => .int (maxC c g)) rfl (by simp [Ab.freeOf]) (small_len (by omega)) (fun g hg Ka Ks ka => ?_) ?_
      · have hG := groups_ok hT g hg
        have hgf := hG.few
        simp only [eR, aName_eq, nm_dat, nm_own, dd_dat, dd_own, bb_bool, arg_dat, arg_own, arg_ali, das_nil, das_dat, cont_list, cont_tup, cont_own, cont_ali, contS_own, ownL_own, ownO_own, stor_dat, stor_own, iD_int, ii_int, i1_int, sAddU_int, sAddU_tup, truS_none, truS_bool, truS_int, truS_list, truS_tup, truS_ali, srcOf_list, srcOf_tup, srcOf_ali, Ab.got_some, gZ_nil, gC_cons, gT_tup, onlyDat_dat, notAli_dat, notAli_own, getO_some, fin_none, fin_some, finO_own, callA_nil, callA_dat, callA_ali, argS_none, argS_some, rt_ad, nx_ad, isN_none, isN_tup, notN_none, notN_tup, aNx, aRet, aIf, aSet, aAug, aDrop, aNever, aC, aBin, aBinR, aUn, aTst, aChain, aNot, aAnd, aOr, aIfE, aAndV, aOrV, aNotV, aNil, aCons, aTup, aLst, aCall1, aCallD, aIx, aApp, aExt, aSetIx, aTru, sLen, sAny, sAll, sSum, sList, sTuple, fI, fC, fB, aSeqI, aRng1, aFor, aFrz, gN, aUnp, aLc, aYes, aCall, aRep, aRgT, turn, wipeA, br_true, br_false, List.map_nil, List.map_cons, List.nil_append, List.cons_append, List.replicate, List.getElem?_cons_zero, List.getElem?_cons_succ, List.set_cons_zero, List.set_cons_succ, List.length_cons, List.length_nil, enS_list, enS_tup, aNotT, aEnum, aRev, aAugD, sLt_int, sLt_ints, sRepT_tup, aCall2, sIsB_eq, sNotB_eq, aDnew, aSortD, ownD_own, aSda, aTupD, datAt_dat, sAllD, aSortSetI, isN_int, notN_int, sIn_int, sNotIn_int, sEq_int, sNe_int, sEq_bool, sNe_bool, sEq_str, aSeq]
        refine lc_map (enc := tI) (fun r => .int (col c r)) trivial (by simp [Ab.freeOf]) (small_len (by omega)) (fun r hr Kb Ks2 kb => ?_) ?_
        · simp only [tI, aName_eq, nm_dat, nm_own, dd_dat, dd_own, bb_bool, arg_dat, arg_own, arg_ali, das_nil, das_dat, cont_list, cont_tup, cont_own, cont_ali, contS_own, ownL_own, ownO_own, stor_dat, stor_own, iD_int, ii_int, i1_int, sAddU_int, sAddU_tup, truS_none, truS_bool, truS_int, truS_list, truS_tup, truS_ali, srcOf_list, srcOf_tup, srcOf_ali, Ab.got_some, gZ_nil, gC_cons, gT_tup, onlyDat_dat, notAli_dat, notAli_own, getO_some, fin_none, fin_some, finO_own, callA_nil, callA_dat, callA_ali, argS_none, argS_some, rt_ad, nx_ad, isN_none, isN_tup, notN_none, notN_tup, aNx, aRet, aIf, aSet, aAug, aDrop, aNever, aC, aBin, aBinR, aUn, aTst, aChain, aNot, aAnd, aOr, aIfE, aAndV, aOrV, aNotV, aNil, aCons, aTup, aLst, aCall1, aCallD, aIx, aApp, aExt, aSetIx, aTru, sLen, sAny, sAll, sSum, sList, sTuple, fI, fC, fB, aSeqI, aRng1, aFor, aFrz, gN, aUnp, aLc, aYes, aCall, aRep, aRgT, turn, wipeA, br_true, br_false, List.map_nil, List.map_cons, List.nil_append, List.cons_append, List.replicate, List.getElem?_cons_zero, List.getElem?_cons_succ, List.set_cons_zero, List.set_cons_succ, List.length_cons, List.length_nil, enS_list, enS_tup, aNotT, aEnum, aRev, aAugD, sLt_int, sLt_ints, sRepT_tup, aCall2, sIsB_eq, sNotB_eq, aDnew, aSortD, ownD_own, aSda, aTupD, datAt_dat, sAllD, aSortSetI, isN_int, notN_int, sIn_int, sNotIn_int, sEq_int, sNe_int, sEq_bool, sNe_bool, sEq_str, aSeq]
          rw [colq r (hG.wid r hr)]
          exact kb
        · refine sMax_col hG.ne ?_
          exact ka
      · simp only [mm, intsD_ints, aName_eq, nm_dat, nm_own, dd_dat, dd_own, bb_bool, arg_dat, arg_own, arg_ali, das_nil, das_dat, cont_list, cont_tup, cont_own, cont_ali, contS_own, ownL_own, ownO_own, stor_dat, stor_own, iD_int, ii_int, i1_int, sAddU_int, sAddU_tup, truS_none, truS_bool, truS_int, truS_list, truS_tup, truS_ali, srcOf_list, srcOf_tup, srcOf_ali, Ab.got_some, gZ_nil, gC_cons, gT_tup, onlyDat_dat, notAli_dat, notAli_own, getO_some, fin_none, fin_some, finO_own, callA_nil, callA_dat, callA_ali, argS_none, argS_some, rt_ad, nx_ad, isN_none, isN_tup, notN_none, notN_tup, aNx, aRet, aIf, aSet, aAug, aDrop, aNever, aC, aBin, aBinR, aUn, aTst, aChain, aNot, aAnd, aOr, aIfE, aAndV, aOrV, aNotV, aNil, aCons, aTup, aLst, aCall1, aCallD, aIx, aApp, aExt, aSetIx, aTru, sLen, sAny, sAll, sSum, sList, sTuple, fI, fC, fB, aSeqI, aRng1, aFor, aFrz, gN, aUnp, aLc, aYes, aCall, aRep, aRgT, turn, wipeA, br_true, br_false, List.map_nil, List.map_cons, List.nil_append, List.cons_append, List.replicate, List.getElem?_cons_zero, List.getElem?_cons_succ, List.set_cons_zero, List.set_cons_succ, List.length_cons, List.length_nil, enS_list, enS_tup, aNotT, aEnum, aRev, aAugD, sLt_int, sLt_ints, sRepT_tup, aCall2, sIsB_eq, sNotB_eq, aDnew, aSortD, ownD_own, aSda, aTupD, datAt_dat, sAllD, aSortSetI, isN_int, notN_int, sIn_int, sNotIn_int, sEq_int, sNe_int, sEq_bool, sNe_bool, sEq_str, aSeq]
        exact ⟨small_le (by decide), k⟩
theorem ok_counts (D : Defs K mg) : FnOk P w K mg base CX0 3 D.f_counts D.fd_counts ["rows", "key", "question"] (toSp K sp_counts) := by
  have G_check_question : FnOk P w K mg base CX0 2 D.f_check_question D.fd_check_question ["rows", "key", "question"] (toSp K sp_check_question) := ok_check_question D
  have G_groups_of : FnOk P w K mg base CX0 1 D.f_groups_of D.fd_groups_of ["rows", "key"] (toSp K sp_groups_of) := ok_groups_of D
  have G_fits : FnOk P w K mg base CX0 1 D.f_fits D.fd_fits ["question", "row"] (toSp K sp_fits) := ok_fits D
  refine ok_def D.F_counts sc_counts (fun oo ds Kc h => ?_) (fun cdv A outer s H E hr =>
      (ss_cons (s_expr (e_call G_check_question (hr.mono (by decide)) (by rfl) D.g_check_question D.F_check_question.kp D.n_check_question (x_cons (e_name (pv 0)) (x_cons (e_name (pv 1)) (x_cons (e_name (pv 2)) x_nil)))))
      (ss_cons (s_set (ps_set (i := 3) sc_counts.nd rfl (.inl rfl) (e_call G_groups_of (hr.mono (by decide)) (by rfl) D.g_groups_of D.F_groups_of.kp D.n_groups_of (x_cons (e_name (pv 0)) (x_cons (e_name (pv 1)) x_nil)))))
      (ss_cons (s_set (ps_set (i := 4) sc_counts.nd rfl (.inl rfl) (e_callB call_len_seq dc_len (by rfl) D.b_len PySem.boot_len (e_lc (own := [("group", 5)]) rfl sc_counts.nd (i_seq (e_name (pv 3))) (blkOk_by (by kernel_rfl)) (fun _ _ _ _ _ => (g_name (pg_name (i := 5) sc_counts.nd rfl (by first | exact Or.inl rfl | exact Or.inr rfl)))) (fun _ _ _ _ _ => (ts_one (t_truth (e_callB (cr_all rfl) dc_all (by rfl) D.b_all boot_all (e_lc (own := [("row", 6)]) rfl sc_counts.nd (i_seq (e_name (pv 5))) (blkOk_by (by kernel_rfl)) (fun _ _ _ _ _ => (g_name (pg_name (i := 6) sc_counts.nd rfl (by first | exact Or.inl rfl | exact Or.inr rfl)))) (fun _ _ _ _ _ => ts_nil) (fun _ _ _ _ _ => (e_call G_fits (hr.mono (by decide)) (by rfl) D.g_fits D.F_fits.kp D.n_fits (x_cons (e_name (pv 2)) (x_cons (e_name (pv 6)) x_nil))))))))) (fun _ _ _ _ _ => (e_name (pv 5)))))))
      (ss_one (s_ret (e_tup (x_cons (e_name (pv 4)) (x_cons (e_callB call_len_seq dc_len (by rfl) D.b_len PySem.boot_len (e_lc (own := [("group", 5)]) rfl sc_counts.nd (i_seq (e_name (pv 3))) (blkOk_by (by kernel_rfl)) (fun _ _ _ _ _ => (g_name (pg_name (i := 5) sc_counts.nd rfl (by first | exact Or.inl rfl | exact Or.inr rfl)))) (fun _ _ _ _ _ => (ts_one (t_truth (e_callB (cr_any rfl) dc_any (by rfl) D.b_any boot_any (e_lc (own := [("row", 6)]) rfl sc_counts.nd (i_seq (e_name (pv 5))) (blkOk_by (by kernel_rfl)) (fun _ _ _ _ _ => (g_name (pg_name (i := 6) sc_counts.nd rfl (by first | exact Or.inl rfl | exact Or.inr rfl)))) (fun _ _ _ _ _ => ts_nil) (fun _ _ _ _ _ => (e_call G_fits (hr.mono (by decide)) (by rfl) D.g_fits D.F_fits.kp D.n_fits (x_cons (e_name (pv 2)) (x_cons (e_name (pv 6)) x_nil))))))))) (fun _ _ _ _ _ => (e_name (pv 5))))) x_nil))))))))) (fun oo ds Kc h => ?_)
  · obtain ⟨wd, rows, key, q, rfl, rfl, _⟩ := h
    rfl
  · obtain ⟨wd, rows, key, q, rfl, rfl, hT, hq, k⟩ := h
    simp only [aName_eq, nm_dat, nm_own, dd_dat, dd_own, bb_bool, arg_dat, arg_own, arg_ali, das_nil, das_dat, cont_list, cont_tup, cont_own, cont_ali, contS_own, ownL_own, ownO_own, stor_dat, stor_own, iD_int, ii_int, i1_int, sAddU_int, sAddU_tup, truS_none, truS_bool, truS_int, truS_list, truS_tup, truS_ali, srcOf_list, srcOf_tup, srcOf_ali, Ab.got_some, gZ_nil, gC_cons, gT_tup, onlyDat_dat, notAli_dat, notAli_own, getO_some, fin_none, fin_some, finO_own, callA_nil, callA_dat, callA_ali, argS_none, argS_some, rt_ad, nx_ad, isN_none, isN_tup, notN_none, notN_tup, aNx, aRet, aIf, aSet, aAug, aDrop, aNever, aC, aBin, aBinR, aUn, aTst, aChain, aNot, aAnd, aOr, aIfE, aAndV, aOrV, aNotV, aNil, aCons, aTup, aLst, aCall1, aCallD, aIx, aApp, aExt, aSetIx, aTru, sLen, sAny, sAll, sSum, sList, sTuple, fI, fC, fB, aSeqI, aRng1, aFor, aFrz, gN, aUnp, aLc, aYes, aCall, aRep, aRgT, turn, wipeA, br_true, br_false, List.map_nil, List.map_cons, List.nil_append, List.cons_append, List.replicate, List.getElem?_cons_zero, List.getElem?_cons_succ, List.set_cons_zero, List.set_cons_succ, List.length_cons, List.length_nil, enS_list, enS_tup, aNotT, aEnum, aRev, aAugD, sLt_int, sLt_ints, sRepT_tup, aCall2, sIsB_eq, sNotB_eq, aDnew, aSortD, ownD_own, aSda, aTupD, datAt_dat, sAllD, aSortSetI, isN_int, notN_int, sIn_int, sNotIn_int, sEq_int, sNe_int, sEq_bool, sNe_bool, sEq_str, aSeq]
    refine ⟨wd, rows, key, q, rfl, rfl, hT, hq, rfl, wd, rows, key, rfl, rfl, hT, ?_⟩
    simp only [aName_eq, nm_dat, nm_own, dd_dat, dd_own, bb_bool, arg_dat, arg_own, arg_ali, das_nil, das_dat, cont_list, cont_tup, cont_own, cont_ali, contS_own, ownL_own, ownO_own, stor_dat, stor_own, iD_int, ii_int, i1_int, sAddU_int, sAddU_tup, truS_none, truS_bool, truS_int, truS_list, truS_tup, truS_ali, srcOf_list, srcOf_tup, srcOf_ali, Ab.got_some, gZ_nil, gC_cons, gT_tup, onlyDat_dat, notAli_dat, notAli_own, getO_some, fin_none, fin_some, finO_own, callA_nil, callA_dat, callA_ali, argS_none, argS_some, rt_ad, nx_ad, isN_none, isN_tup, notN_none, notN_tup, aNx, aRet, aIf, aSet, aAug, aDrop, aNever, aC, aBin, aBinR, aUn, aTst, aChain, aNot, aAnd, aOr, aIfE, aAndV, aOrV, aNotV, aNil, aCons, aTup, aLst, aCall1, aCallD, aIx, aApp, aExt, aSetIx, aTru, sLen, sAny, sAll, sSum, sList, sTuple, fI, fC, fB, aSeqI, aRng1, aFor, aFrz, gN, aUnp, aLc, aYes, aCall, aRep, aRgT, turn, wipeA, br_true, br_false, List.map_nil, List.map_cons, List.nil_append, List.cons_append, List.replicate, List.getElem?_cons_zero, List.getElem?_cons_succ, List.set_cons_zero, List.set_cons_succ, List.length_cons, List.length_nil, enS_list, enS_tup, aNotT, aEnum, aRev, aAugD, sLt_int, sLt_ints, sRepT_tup, aCall2, sIsB_eq, sNotB_eq, aDnew, aSortD, ownD_own, aSda, aTupD, datAt_dat, sAllD, aSortSetI, isN_int, notN_int, sIn_int, sNotIn_int, sEq_int, sNe_int, sEq_bool, sNe_bool, sEq_str, aSeq]
    have hgl := groups_len hT
    have hw6 := hT.w6
    refine ⟨trivial, ?_⟩
    refine lc_pure (enc := eR) (fun g => g.all (fitsF q)) eR rfl (by simp [Ab.freeOf]) (small_len (by omega)) (fun g hg Ka Ks ka ks => ?_) ?_
    · have hG := groups_ok hT g hg
      have hgf := hG.few
      simp only [eR, aName_eq, nm_dat, nm_own, dd_dat, dd_own, bb_bool, arg_dat, arg_own, arg_ali, das_nil, das_dat, cont_list, cont_tup, cont_own, cont_ali, contS_own, ownL_own, ownO_own, stor_dat, stor_own, iD_int, ii_int, i1_int, sAddU_int, sAddU_tup, truS_none, truS_bool, truS_int, truS_list, truS_tup, truS_ali, srcOf_list, srcOf_tup, srcOf_ali, Ab.got_some, gZ_nil, gC_cons, gT_tup, onlyDat_dat, notAli_dat, notAli_own, getO_some, fin_none, fin_some, finO_own, callA_nil, callA_dat, callA_ali, argS_none, argS_some, rt_ad, nx_ad, isN_none, isN_tup, notN_none, notN_tup, aNx, aRet, aIf, aSet, aAug, aDrop, aNever, aC, aBin, aBinR, aUn, aTst, aChain, aNot, aAnd, aOr, aIfE, aAndV, aOrV, aNotV, aNil, aCons, aTup, aLst, aCall1, aCallD, aIx, aApp, aExt, aSetIx, aTru, sLen, sAny, sAll, sSum, sList, sTuple, fI, fC, fB, aSeqI, aRng1, aFor, aFrz, gN, aUnp, aLc, aYes, aCall, aRep, aRgT, turn, wipeA, br_true, br_false, List.map_nil, List.map_cons, List.nil_append, List.cons_append, List.replicate, List.getElem?_cons_zero, List.getElem?_cons_succ, List.set_cons_zero, List.set_cons_succ, List.length_cons, List.length_nil, enS_list, enS_tup, aNotT, aEnum, aRev, aAugD, sLt_int, sLt_ints, sRepT_tup, aCall2, sIsB_eq, sNotB_eq, aDnew, aSortD, ownD_own, aSda, aTupD, datAt_dat, sAllD, aSortSetI, isN_int, notN_int, sIn_int, sNotIn_int, sEq_int, sNe_int, sEq_bool, sNe_bool, sEq_str, aSeq]
      refine lc_map (enc := tI) (fun r => .bool (fitsF q r)) trivial (by simp [Ab.freeOf]) (small_len (by omega)) (fun r hr Kb Ks2 kb => ?_) ?_
      · have hrw := hG.wid r hr
        simp only [aName_eq, nm_dat, nm_own, dd_dat, dd_own, bb_bool, arg_dat, arg_own, arg_ali, das_nil, das_dat, cont_list, cont_tup, cont_own, cont_ali, contS_own, ownL_own, ownO_own, stor_dat, stor_own, iD_int, ii_int, i1_int, sAddU_int, sAddU_tup, truS_none, truS_bool, truS_int, truS_list, truS_tup, truS_ali, srcOf_list, srcOf_tup, srcOf_ali, Ab.got_some, gZ_nil, gC_cons, gT_tup, onlyDat_dat, notAli_dat, notAli_own, getO_some, fin_none, fin_some, finO_own, callA_nil, callA_dat, callA_ali, argS_none, argS_some, rt_ad, nx_ad, isN_none, isN_tup, notN_none, notN_tup, aNx, aRet, aIf, aSet, aAug, aDrop, aNever, aC, aBin, aBinR, aUn, aTst, aChain, aNot, aAnd, aOr, aIfE, aAndV, aOrV, aNotV, aNil, aCons, aTup, aLst, aCall1, aCallD, aIx, aApp, aExt, aSetIx, aTru, sLen, sAny, sAll, sSum, sList, sTuple, fI, fC, fB, aSeqI, aRng1, aFor, aFrz, gN, aUnp, aLc, aYes, aCall, aRep, aRgT, turn, wipeA, br_true, br_false, List.map_nil, List.map_cons, List.nil_append, List.cons_append, List.replicate, List.getElem?_cons_zero, List.getElem?_cons_succ, List.set_cons_zero, List.set_cons_succ, List.length_cons, List.length_nil, enS_list, enS_tup, aNotT, aEnum, aRev, aAugD, sLt_int, sLt_ints, sRepT_tup, aCall2, sIsB_eq, sNotB_eq, aDnew, aSortD, ownD_own, aSda, aTupD, datAt_dat, sAllD, aSortSetI, isN_int, notN_int, sIn_int, sNotIn_int, sEq_int, sNe_int, sEq_bool, sNe_bool, sEq_str, aSeq]
        exact ⟨q, r, rfl, rfl, by omega, by omega, rfl, kb⟩
      · simp only [bools_map, all_map, aName_eq, nm_dat, nm_own, dd_dat, dd_own, bb_bool, arg_dat, arg_own, arg_ali, das_nil, das_dat, cont_list, cont_tup, cont_own, cont_ali, contS_own, ownL_own, ownO_own, stor_dat, stor_own, iD_int, ii_int, i1_int, sAddU_int, sAddU_tup, truS_none, truS_bool, truS_int, truS_list, truS_tup, truS_ali, srcOf_list, srcOf_tup, srcOf_ali, Ab.got_some, gZ_nil, gC_cons, gT_tup, onlyDat_dat, notAli_dat, notAli_own, getO_some, fin_none, fin_some, finO_own, callA_nil, callA_dat, callA_ali, argS_none, argS_some, rt_ad, nx_ad, isN_none, isN_tup, notN_none, notN_tup, aNx, aRet, aIf, aSet, aAug, aDrop, aNever, aC, aBin, aBinR, aUn, aTst, aChain, aNot, aAnd, aOr, aIfE, aAndV, aOrV, aNotV, aNil, aCons, aTup, aLst, aCall1, aCallD, aIx, aApp, aExt, aSetIx, aTru, sLen, sAny, sAll, sSum, sList, sTuple, fI, fC, fB, aSeqI, aRng1, aFor, aFrz, gN, aUnp, aLc, aYes, aCall, aRep, aRgT, turn, wipeA, br_true, br_false, List.map_nil, List.map_cons, List.nil_append, List.cons_append, List.replicate, List.getElem?_cons_zero, List.getElem?_cons_succ, List.set_cons_zero, List.set_cons_succ, List.length_cons, List.length_nil, enS_list, enS_tup, aNotT, aEnum, aRev, aAugD, sLt_int, sLt_ints, sRepT_tup, aCall2, sIsB_eq, sNotB_eq, aDnew, aSortD, ownD_own, aSda, aTupD, datAt_dat, sAllD, aSortSetI, isN_int, notN_int, sIn_int, sNotIn_int, sEq_int, sNe_int, sEq_bool, sNe_bool, sEq_str, aSeq]
        exact ⟨trivial, ka, ks⟩
    · simp only [List.length_map, aName_eq, nm_dat, nm_own, dd_dat, dd_own, bb_bool, arg_dat, arg_own, arg_ali, das_nil, das_dat, cont_list, cont_tup, cont_own, cont_ali, contS_own, ownL_own, ownO_own, stor_dat, stor_own, iD_int, ii_int, i1_int, sAddU_int, sAddU_tup, truS_none, truS_bool, truS_int, truS_list, truS_tup, truS_ali, srcOf_list, srcOf_tup, srcOf_ali, Ab.got_some, gZ_nil, gC_cons, gT_tup, onlyDat_dat, notAli_dat, notAli_own, getO_some, fin_none, fin_some, finO_own, callA_nil, callA_dat, callA_ali, argS_none, argS_some, rt_ad, nx_ad, isN_none, isN_tup, notN_none, notN_tup, aNx, aRet, aIf, aSet, aAug, aDrop, aNever, aC, aBin, aBinR, aUn, aTst, aChain, aNot, aAnd, aOr, aIfE, aAndV, aOrV, aNotV, aNil, aCons, aTup, aLst, aCall1, aCallD, aIx, aApp, aExt, aSetIx, aTru, sLen, sAny, sAll, sSum, sList, sTuple, fI, fC, fB, aSeqI, aRng1, aFor, aFrz, gN, aUnp, aLc, aYes, aCall, aRep, aRgT, turn, wipeA, br_true, br_false, List.map_nil, List.map_cons, List.nil_append, List.cons_append, List.replicate, List.getElem?_cons_zero, List.getElem?_cons_succ, List.set_cons_zero, List.set_cons_succ, List.length_cons, List.length_nil, enS_list, enS_tup, aNotT, aEnum, aRev, aAugD, sLt_int, sLt_ints, sRepT_tup, aCall2, sIsB_eq, sNotB_eq, aDnew, aSortD, ownD_own, aSda, aTupD, datAt_dat, sAllD, aSortSetI, isN_int, notN_int, sIn_int, sNotIn_int, sEq_int, sNe_int, sEq_bool, sNe_bool, sEq_str, aSeq]
      refine lc_pure (enc := eR) (fun g => g.any (fitsF q)) eR rfl (by simp [Ab.freeOf]) (small_len (by omega)) (fun g hg Ka Ks ka ks => ?_) ?_
      · have hG := groups_ok hT g hg
        have hgf := hG.few
        simp only [eR, aName_eq, nm_dat, nm_own, dd_dat, dd_own, bb_bool, arg_dat, arg_own, arg_ali, das_nil, das_dat, cont_list, cont_tup, cont_own, cont_ali, contS_own, ownL_own, ownO_own, stor_dat, stor_own, iD_int, ii_int, i1_int, sAddU_int, sAddU_tup, truS_none, truS_bool, truS_int, truS_list, truS_tup, truS_ali, srcOf_list, srcOf_tup, srcOf_ali, Ab.got_some, gZ_nil, gC_cons, gT_tup, onlyDat_dat, notAli_dat, notAli_own, getO_some, fin_none, fin_some, finO_own, callA_nil, callA_dat, callA_ali, argS_none, argS_some, rt_ad, nx_ad, isN_none, isN_tup, notN_none, notN_tup, aNx, aRet, aIf, aSet, aAug, aDrop, aNever, aC, aBin, aBinR, aUn, aTst, aChain, aNot, aAnd, aOr, aIfE, aAndV, aOrV, aNotV, aNil, aCons, aTup, aLst, aCall1, aCallD, aIx, aApp, aExt, aSetIx, aTru, sLen, sAny, sAll, sSum, sList, sTuple, fI, fC, fB, aSeqI, aRng1, aFor, aFrz, gN, aUnp, aLc, aYes, aCall, aRep, aRgT, turn, wipeA, br_true, br_false, List.map_nil, List.map_cons, List.nil_append, List.cons_append, List.replicate, List.getElem?_cons_zero, List.getElem?_cons_succ, List.set_cons_zero, List.set_cons_succ, List.length_cons, List.length_nil, enS_list, enS_tup, aNotT, aEnum, aRev, aAugD, sLt_int, sLt_ints, sRepT_tup, aCall2, sIsB_eq, sNotB_eq, aDnew, aSortD, ownD_own, aSda, aTupD, datAt_dat, sAllD, aSortSetI, isN_int, notN_int, sIn_int, sNotIn_int, sEq_int, sNe_int, sEq_bool, sNe_bool, sEq_str, aSeq]
        refine lc_map (enc := tI) (fun r => .bool (fitsF q r)) trivial (by simp [Ab.freeOf]) (small_len (by omega)) (fun r hr Kb Ks2 kb => ?_) ?_
        · have hrw := hG.wid r hr
          simp only [aName_eq, nm_dat, nm_own, dd_dat, dd_own, bb_bool, arg_dat, arg_own, arg_ali, das_nil, das_dat, cont_list, cont_tup, cont_own, cont_ali, contS_own, ownL_own, ownO_own, stor_dat, stor_own, iD_int, ii_int, i1_int, sAddU_int, sAddU_tup, truS_none, truS_bool, truS_int, truS_list, truS_tup, truS_ali, srcOf_list, srcOf_tup, srcOf_ali, Ab.got_some, gZ_nil, gC_cons, gT_tup, onlyDat_dat, notAli_dat, notAli_own, getO_some, fin_none, fin_some, finO_own, callA_nil, callA_dat, callA_ali, argS_none, argS_some, rt_ad, nx_ad, isN_none, isN_tup, notN_none, notN_tup, aNx, aRet, aIf, aSet, aAug, aDrop, aNever, aC, aBin, aBinR, aUn, aTst, aChain, aNot, aAnd, aOr, aIfE, aAndV, aOrV, aNotV, aNil, aCons, aTup, aLst, aCall1, aCallD, aIx, aApp, aExt, aSetIx, aTru, sLen, sAny, sAll, sSum, sList, sTuple, fI, fC, fB, aSeqI, aRng1, aFor, aFrz, gN, aUnp, aLc, aYes, aCall, aRep, aRgT, turn, wipeA, br_true, br_false, List.map_nil, List.map_cons, List.nil_append, List.cons_append, List.replicate, List.getElem?_cons_zero, List.getElem?_cons_succ, List.set_cons_zero, List.set_cons_succ, List.length_cons, List.length_nil, enS_list, enS_tup, aNotT, aEnum, aRev, aAugD, sLt_int, sLt_ints, sRepT_tup, aCall2, sIsB_eq, sNotB_eq, aDnew, aSortD, ownD_own, aSda, aTupD, datAt_dat, sAllD, aSortSetI, isN_int, notN_int, sIn_int, sNotIn_int, sEq_int, sNe_int, sEq_bool, sNe_bool, sEq_str, aSeq]
          exact ⟨q, r, rfl, rfl, by omega, by omega, rfl, kb⟩
        · simp only [bools_map, any_map', aName_eq, nm_dat, nm_own, dd_dat, dd_own, bb_bool, arg_dat, arg_own, arg_ali, das_nil, das_dat, cont_list, cont_tup, cont_own, cont_ali, contS_own, ownL_own, ownO_own, stor_dat, stor_own, iD_int, ii_int, i1_int, sAddU_int, sAddU_tup, truS_none, truS_bool, truS_int, truS_list, truS_tup, truS_ali, srcOf_list, srcOf_tup, srcOf_ali, Ab.got_some, gZ_nil, gC_cons, gT_tup, onlyDat_dat, notAli_dat, notAli_own, getO_some, fin_none, fin_some, finO_own, callA_nil, callA_dat, callA_ali, argS_none, argS_some, rt_ad, nx_ad, isN_none, isN_tup, notN_none, notN_tup, aNx, aRet, aIf, aSet, aAug, aDrop, aNever, aC, aBin, aBinR, aUn, aTst, aChain, aNot, aAnd, aOr, aIfE, aAndV, aOrV, aNotV, aNil, aCons, aTup, aLst, aCall1, aCallD, aIx, aApp, aExt, aSetIx, aTru, sLen, sAny, sAll, sSum, sList, sTuple, fI, fC, fB, aSeqI, aRng1, aFor, aFrz, gN, aUnp, aLc, aYes, aCall, aRep, aRgT, turn, wipeA, br_true, br_false, List.map_nil, List.map_cons, List.nil_append, List.cons_append, List.replicate, List.getElem?_cons_zero, List.getElem?_cons_succ, List.set_cons_zero, List.set_cons_succ, List.length_cons, List.length_nil, enS_list, enS_tup, aNotT, aEnum, aRev, aAugD, sLt_int, sLt_ints, sRepT_tup, aCall2, sIsB_eq, sNotB_eq, aDnew, aSortD, ownD_own, aSda, aTupD, datAt_dat, sAllD, aSortSetI, isN_int, notN_int, sIn_int, sNotIn_int, sEq_int, sNe_int, sEq_bool, sNe_bool, sEq_str, aSeq]
          exact ⟨trivial, ka, ks⟩
      · simp only [List.length_map, aName_eq, nm_dat, nm_own, dd_dat, dd_own, bb_bool, arg_dat, arg_own, arg_ali, das_nil, das_dat, cont_list, cont_tup, cont_own, cont_ali, contS_own, ownL_own, ownO_own, stor_dat, stor_own, iD_int, ii_int, i1_int, sAddU_int, sAddU_tup, truS_none, truS_bool, truS_int, truS_list, truS_tup, truS_ali, srcOf_list, srcOf_tup, srcOf_ali, Ab.got_some, gZ_nil, gC_cons, gT_tup, onlyDat_dat, notAli_dat, notAli_own, getO_some, fin_none, fin_some, finO_own, callA_nil, callA_dat, callA_ali, argS_none, argS_some, rt_ad, nx_ad, isN_none, isN_tup, notN_none, notN_tup, aNx, aRet, aIf, aSet, aAug, aDrop, aNever, aC, aBin, aBinR, aUn, aTst, aChain, aNot, aAnd, aOr, aIfE, aAndV, aOrV, aNotV, aNil, aCons, aTup, aLst, aCall1, aCallD, aIx, aApp, aExt, aSetIx, aTru, sLen, sAny, sAll, sSum, sList, sTuple, fI, fC, fB, aSeqI, aRng1, aFor, aFrz, gN, aUnp, aLc, aYes, aCall, aRep, aRgT, turn, wipeA, br_true, br_false, List.map_nil, List.map_cons, List.nil_append, List.cons_append, List.replicate, List.getElem?_cons_zero, List.getElem?_cons_succ, List.set_cons_zero, List.set_cons_succ, List.length_cons, List.length_nil, enS_list, enS_tup, aNotT, aEnum, aRev, aAugD, sLt_int, sLt_ints, sRepT_tup, aCall2, sIsB_eq, sNotB_eq, aDnew, aSortD, ownD_own, aSda, aTupD, datAt_dat, sAllD, aSortSetI, isN_int, notN_int, sIn_int, sNotIn_int, sEq_int, sNe_int, sEq_bool, sNe_bool, sEq_str, aSeq]
        exact ⟨small_le (by decide), k⟩
theorem ok_chance (D : Defs K mg) : FnOk P w K mg base CX0 3 D.f_chance D.fd_chance ["rows", "key", "question"] (toSp K sp_chance) := by
  have G_check_question : FnOk P w K mg base CX0 2 D.f_check_question D.fd_check_question ["rows", "key", "question"] (toSp K sp_check_question) := ok_check_question D
  have G_groups_of : FnOk P w K mg base CX0 1 D.f_groups_of D.fd_groups_of ["rows", "key"] (toSp K sp_groups_of) := ok_groups_of D
  have G_fits : FnOk P w K mg base CX0 1 D.f_fits D.fd_fits ["question", "row"] (toSp K sp_fits) := ok_fits D
  refine ok_def D.F_chance sc_chance (fun oo ds Kc h => ?_) (fun cdv A outer s H E hr =>
      (ss_cons (s_expr (e_call G_check_question (hr.mono (by decide)) (by rfl) D.g_check_question D.F_check_question.kp D.n_check_question (x_cons (e_name (pv 0)) (x_cons (e_name (pv 1)) (x_cons (e_name (pv 2)) x_nil)))))
      (ss_cons (s_set (ps_set (i := 3) sc_chance.nd rfl (.inl rfl) e_int))
      (ss_cons (s_set (ps_set (i := 4) sc_chance.nd rfl (.inl rfl) e_int))
      (ss_cons (s_for PassesOwn.never rfl (i_seq (e_call G_groups_of (hr.mono (by decide)) (by rfl) D.g_groups_of D.F_groups_of.kp D.n_groups_of (x_cons (e_name (pv 0)) (x_cons (e_name (pv 1)) x_nil)))) (g_name (pg_name (i := 5) sc_chance.nd rfl (.inl rfl))) (ss_cons (s_augD dr_c (ps_aug (i := 3) sc_chance.nd rfl (.inl rfl) (e_callB call_len_seq dc_len (by rfl) D.b_len PySem.boot_len (e_name (pv 5))) iop_mul))
      (ss_one (s_augD dr_c (ps_aug (i := 4) sc_chance.nd rfl (.inl rfl) (e_callB call_len_seq dc_len (by rfl) D.b_len PySem.boot_len (e_lc (own := [("row", 6)]) rfl sc_chance.nd (i_seq (e_name (pv 5))) (blkOk_by (by kernel_rfl)) (fun _ _ _ _ _ => (g_name (pg_name (i := 6) sc_chance.nd rfl (by first | exact Or.inl rfl | exact Or.inr rfl)))) (fun _ _ _ _ _ => (ts_one (t_not (t_truth (e_call G_fits (hr.mono (by decide)) (by rfl) D.g_fits D.F_fits.kp D.n_fits (x_cons (e_name (pv 2)) (x_cons (e_name (pv 6)) x_nil))))))) (fun _ _ _ _ _ => (e_name (pv 6))))) iop_mul)))))
      (ss_one (s_ret (e_tup (x_cons (e_op op_sub dr_i (e_name (pv 3)) (e_name (pv 4))) (x_cons (e_name (pv 3)) x_nil)))))))))) (fun oo ds Kc h => ?_)
  · obtain ⟨wd, rows, key, q, rfl, rfl, _⟩ := h
    rfl
  · obtain ⟨wd, rows, key, q, rfl, rfl, hT, hq, k⟩ := h
    simp only [aName_eq, nm_dat, nm_own, dd_dat, dd_own, bb_bool, arg_dat, arg_own, arg_ali, das_nil, das_dat, cont_list, cont_tup, cont_own, cont_ali, contS_own, ownL_own, ownO_own, stor_dat, stor_own, iD_int, ii_int, i1_int, sAddU_int, sAddU_tup, truS_none, truS_bool, truS_int, truS_list, truS_tup, truS_ali, srcOf_list, srcOf_tup, srcOf_ali, Ab.got_some, gZ_nil, gC_cons, gT_tup, onlyDat_dat, notAli_dat, notAli_own, getO_some, fin_none, fin_some, finO_own, callA_nil, callA_dat, callA_ali, argS_none, argS_some, rt_ad, nx_ad, isN_none, isN_tup, notN_none, notN_tup, aNx, aRet, aIf, aSet, aAug, aDrop, aNever, aC, aBin, aBinR, aUn, aTst, aChain, aNot, aAnd, aOr, aIfE, aAndV, aOrV, aNotV, aNil, aCons, aTup, aLst, aCall1, aCallD, aIx, aApp, aExt, aSetIx, aTru, sLen, sAny, sAll, sSum, sList, sTuple, fI, fC, fB, aSeqI, aRng1, aFor, aFrz, gN, aUnp, aLc, aYes, aCall, aRep, aRgT, turn, wipeA, br_true, br_false, List.map_nil, List.map_cons, List.nil_append, List.cons_append, List.replicate, List.getElem?_cons_zero, List.getElem?_cons_succ, List.set_cons_zero, List.set_cons_succ, List.length_cons, List.length_nil, enS_list, enS_tup, aNotT, aEnum, aRev, aAugD, sLt_int, sLt_ints, sRepT_tup, aCall2, sIsB_eq, sNotB_eq, aDnew, aSortD, ownD_own, aSda, aTupD, datAt_dat, sAllD, aSortSetI, isN_int, notN_int, sIn_int, sNotIn_int, sEq_int, sNe_int, sEq_bool, sNe_bool, sEq_str, aSeq]
    refine ⟨wd, rows, key, q, rfl, rfl, hT, hq, rfl, wd, rows, key, rfl, rfl, hT, ?_⟩
    simp only [aName_eq, nm_dat, nm_own, dd_dat, dd_own, bb_bool, arg_dat, arg_own, arg_ali, das_nil, das_dat, cont_list, cont_tup, cont_own, cont_ali, contS_own, ownL_own, ownO_own, stor_dat, stor_own, iD_int, ii_int, i1_int, sAddU_int, sAddU_tup, truS_none, truS_bool, truS_int, truS_list, truS_tup, truS_ali, srcOf_list, srcOf_tup, srcOf_ali, Ab.got_some, gZ_nil, gC_cons, gT_tup, onlyDat_dat, notAli_dat, notAli_own, getO_some, fin_none, fin_some, finO_own, callA_nil, callA_dat, callA_ali, argS_none, argS_some, rt_ad, nx_ad, isN_none, isN_tup, notN_none, notN_tup, aNx, aRet, aIf, aSet, aAug, aDrop, aNever, aC, aBin, aBinR, aUn, aTst, aChain, aNot, aAnd, aOr, aIfE, aAndV, aOrV, aNotV, aNil, aCons, aTup, aLst, aCall1, aCallD, aIx, aApp, aExt, aSetIx, aTru, sLen, sAny, sAll, sSum, sList, sTuple, fI, fC, fB, aSeqI, aRng1, aFor, aFrz, gN, aUnp, aLc, aYes, aCall, aRep, aRgT, turn, wipeA, br_true, br_false, List.map_nil, List.map_cons, List.nil_append, List.cons_append, List.replicate, List.getElem?_cons_zero, List.getElem?_cons_succ, List.set_cons_zero, List.set_cons_succ, List.length_cons, List.length_nil, enS_list, enS_tup, aNotT, aEnum, aRev, aAugD, sLt_int, sLt_ints, sRepT_tup, aCall2, sIsB_eq, sNotB_eq, aDnew, aSortD, ownD_own, aSda, aTupD, datAt_dat, sAllD, aSortSetI, isN_int, notN_int, sIn_int, sNotIn_int, sEq_int, sNe_int, sEq_bool, sNe_bool, sEq_str, aSeq]
    have hgl := groups_len hT
    have hw6 := hT.w6
    refine ⟨trivial, trivial, fun _ => trivial, ?_⟩
    refine for_inv (enc := eR) (xs := groupsF rows key) (fun pre ρ => ∃ x5, ρ = [some (.dat (eR rows)), some (.dat (tI key)), some (.dat (eQ q)), some (.dat (.int (prodL pre))), some (.dat (.int (without q pre))), x5, none]) ⟨none, rfl⟩ ?_ ?_
    · rintro pre g post e ρ ⟨x5, rfl⟩ Kn kn
      have hG := groups_ok hT g (by rw [e]; simp)
      have hgf := hG.few
      simp only [eR, List.length_map, aName_eq, nm_dat, nm_own, dd_dat, dd_own, bb_bool, arg_dat, arg_own, arg_ali, das_nil, das_dat, cont_list, cont_tup, cont_own, cont_ali, contS_own, ownL_own, ownO_own, stor_dat, stor_own, iD_int, ii_int, i1_int, sAddU_int, sAddU_tup, truS_none, truS_bool, truS_int, truS_list, truS_tup, truS_ali, srcOf_list, srcOf_tup, srcOf_ali, Ab.got_some, gZ_nil, gC_cons, gT_tup, onlyDat_dat, notAli_dat, notAli_own, getO_some, fin_none, fin_some, finO_own, callA_nil, callA_dat, callA_ali, argS_none, argS_some, rt_ad, nx_ad, isN_none, isN_tup, notN_none, notN_tup, aNx, aRet, aIf, aSet, aAug, aDrop, aNever, aC, aBin, aBinR, aUn, aTst, aChain, aNot, aAnd, aOr, aIfE, aAndV, aOrV, aNotV, aNil, aCons, aTup, aLst, aCall1, aCallD, aIx, aApp, aExt, aSetIx, aTru, sLen, sAny, sAll, sSum, sList, sTuple, fI, fC, fB, aSeqI, aRng1, aFor, aFrz, gN, aUnp, aLc, aYes, aCall, aRep, aRgT, turn, wipeA, br_true, br_false, List.map_nil, List.map_cons, List.nil_append, List.cons_append, List.replicate, List.getElem?_cons_zero, List.getElem?_cons_succ, List.set_cons_zero, List.set_cons_succ, List.length_cons, List.length_nil, enS_list, enS_tup, aNotT, aEnum, aRev, aAugD, sLt_int, sLt_ints, sRepT_tup, aCall2, sIsB_eq, sNotB_eq, aDnew, aSortD, ownD_own, aSda, aTupD, datAt_dat, sAllD, aSortSetI, isN_int, notN_int, sIn_int, sNotIn_int, sEq_int, sNe_int, sEq_bool, sNe_bool, sEq_str, aSeq]
      refine ⟨.inr ⟨by omega, by omega⟩, ?_⟩
      refine lc_pure (enc := tI) (fun r => !fitsF q r) tI trivial (by simp [Ab.freeOf]) (small_len (by omega)) (fun r hr Ka Ks ka ks => ?_) ?_
      · have hrw := hG.wid r hr
        simp only [aName_eq, nm_dat, nm_own, dd_dat, dd_own, bb_bool, arg_dat, arg_own, arg_ali, das_nil, das_dat, cont_list, cont_tup, cont_own, cont_ali, contS_own, ownL_own, ownO_own, stor_dat, stor_own, iD_int, ii_int, i1_int, sAddU_int, sAddU_tup, truS_none, truS_bool, truS_int, truS_list, truS_tup, truS_ali, srcOf_list, srcOf_tup, srcOf_ali, Ab.got_some, gZ_nil, gC_cons, gT_tup, onlyDat_dat, notAli_dat, notAli_own, getO_some, fin_none, fin_some, finO_own, callA_nil, callA_dat, callA_ali, argS_none, argS_some, rt_ad, nx_ad, isN_none, isN_tup, notN_none, notN_tup, aNx, aRet, aIf, aSet, aAug, aDrop, aNever, aC, aBin, aBinR, aUn, aTst, aChain, aNot, aAnd, aOr, aIfE, aAndV, aOrV, aNotV, aNil, aCons, aTup, aLst, aCall1, aCallD, aIx, aApp, aExt, aSetIx, aTru, sLen, sAny, sAll, sSum, sList, sTuple, fI, fC, fB, aSeqI, aRng1, aFor, aFrz, gN, aUnp, aLc, aYes, aCall, aRep, aRgT, turn, wipeA, br_true, br_false, List.map_nil, List.map_cons, List.nil_append, List.cons_append, List.replicate, List.getElem?_cons_zero, List.getElem?_cons_succ, List.set_cons_zero, List.set_cons_succ, List.length_cons, List.length_nil, enS_list, enS_tup, aNotT, aEnum, aRev, aAugD, sLt_int, sLt_ints, sRepT_tup, aCall2, sIsB_eq, sNotB_eq, aDnew, aSortD, ownD_own, aSda, aTupD, datAt_dat, sAllD, aSortSetI, isN_int, notN_int, sIn_int, sNotIn_int, sEq_int, sNe_int, sEq_bool, sNe_bool, sEq_str, aSeq]
        exact ⟨q, r, rfl, rfl, by omega, by omega, rfl, ka, ks⟩
      · have el : g.filter (fun r => !fitsF q r) = left q g := rfl
        have ell : (left q g).length ≤ 40 := Nat.le_trans (List.length_filter_le _ _) hgf
        simp only [el, List.length_map, aName_eq, nm_dat, nm_own, dd_dat, dd_own, bb_bool, arg_dat, arg_own, arg_ali, das_nil, das_dat, cont_list, cont_tup, cont_own, cont_ali, contS_own, ownL_own, ownO_own, stor_dat, stor_own, iD_int, ii_int, i1_int, sAddU_int, sAddU_tup, truS_none, truS_bool, truS_int, truS_list, truS_tup, truS_ali, srcOf_list, srcOf_tup, srcOf_ali, Ab.got_some, gZ_nil, gC_cons, gT_tup, onlyDat_dat, notAli_dat, notAli_own, getO_some, fin_none, fin_some, finO_own, callA_nil, callA_dat, callA_ali, argS_none, argS_some, rt_ad, nx_ad, isN_none, isN_tup, notN_none, notN_tup, aNx, aRet, aIf, aSet, aAug, aDrop, aNever, aC, aBin, aBinR, aUn, aTst, aChain, aNot, aAnd, aOr, aIfE, aAndV, aOrV, aNotV, aNil, aCons, aTup, aLst, aCall1, aCallD, aIx, aApp, aExt, aSetIx, aTru, sLen, sAny, sAll, sSum, sList, sTuple, fI, fC, fB, aSeqI, aRng1, aFor, aFrz, gN, aUnp, aLc, aYes, aCall, aRep, aRgT, turn, wipeA, br_true, br_false, List.map_nil, List.map_cons, List.nil_append, List.cons_append, List.replicate, List.getElem?_cons_zero, List.getElem?_cons_succ, List.set_cons_zero, List.set_cons_succ, List.length_cons, List.length_nil, enS_list, enS_tup, aNotT, aEnum, aRev, aAugD, sLt_int, sLt_ints, sRepT_tup, aCall2, sIsB_eq, sNotB_eq, aDnew, aSortD, ownD_own, aSda, aTupD, datAt_dat, sAllD, aSortSetI, isN_int, notN_int, sIn_int, sNotIn_int, sEq_int, sNe_int, sEq_bool, sNe_bool, sEq_str, aSeq]
        refine ⟨.inr ⟨by omega, by omega⟩, kn _ ⟨some (.dat (eR g)), ?_⟩⟩
        unfold prodL without
        rw [List.foldl_append, List.foldl_append]
        rfl
    · rintro ρ ⟨x5, rfl⟩
      simp only [aName_eq, nm_dat, nm_own, dd_dat, dd_own, bb_bool, arg_dat, arg_own, arg_ali, das_nil, das_dat, cont_list, cont_tup, cont_own, cont_ali, contS_own, ownL_own, ownO_own, stor_dat, stor_own, iD_int, ii_int, i1_int, sAddU_int, sAddU_tup, truS_none, truS_bool, truS_int, truS_list, truS_tup, truS_ali, srcOf_list, srcOf_tup, srcOf_ali, Ab.got_some, gZ_nil, gC_cons, gT_tup, onlyDat_dat, notAli_dat, notAli_own, getO_some, fin_none, fin_some, finO_own, callA_nil, callA_dat, callA_ali, argS_none, argS_some, rt_ad, nx_ad, isN_none, isN_tup, notN_none, notN_tup, aNx, aRet, aIf, aSet, aAug, aDrop, aNever, aC, aBin, aBinR, aUn, aTst, aChain, aNot, aAnd, aOr, aIfE, aAndV, aOrV, aNotV, aNil, aCons, aTup, aLst, aCall1, aCallD, aIx, aApp, aExt, aSetIx, aTru, sLen, sAny, sAll, sSum, sList, sTuple, fI, fC, fB, aSeqI, aRng1, aFor, aFrz, gN, aUnp, aLc, aYes, aCall, aRep, aRgT, turn, wipeA, br_true, br_false, List.map_nil, List.map_cons, List.nil_append, List.cons_append, List.replicate, List.getElem?_cons_zero, List.getElem?_cons_succ, List.set_cons_zero, List.set_cons_succ, List.length_cons, List.length_nil, enS_list, enS_tup, aNotT, aEnum, aRev, aAugD, sLt_int, sLt_ints, sRepT_tup, aCall2, sIsB_eq, sNotB_eq, aDnew, aSortD, ownD_own, aSda, aTupD, datAt_dat, sAllD, aSortSetI, isN_int, notN_int, sIn_int, sNotIn_int, sEq_int, sNe_int, sEq_bool, sNe_bool, sEq_str, aSeq]
      exact ⟨small_le (by decide), k⟩
theorem ok_pairs_of (D : Defs K mg) : FnOk P w K mg base CX0 1 D.f_pairs_of D.fd_pairs_of ["first", "second", "column", "other"] (toSp K sp_pairs_of) := by
  refine ok_def D.F_pairs_of sc_pairs_of (fun oo ds Kc h => ?_) (fun cdv A outer s H E hr =>
      (ss_cons (s_set (ps_set (i := 4) sc_pairs_of.nd rfl (.inl rfl) (e_lst x_nil)))
      (ss_cons (s_for PassesOwn.never rfl (i_seq (e_name (pv 0))) (g_name (pg_name (i := 5) sc_pairs_of.nd rfl (.inr rfl))) (ss_one (s_ext (pe_extend (pv 4) (e_lc (own := [("more", 6)]) rfl sc_pairs_of.nd (i_seq (e_name (pv 1))) (blkOk_by (by kernel_rfl)) (fun _ _ _ _ _ => (g_name (pg_name (i := 6) sc_pairs_of.nd rfl (by first | exact Or.inl rfl | exact Or.inr rfl)))) (fun _ _ _ _ _ => (ts_one (t_cmp (op_eqP hr.units) dr_eq (e_ix (e_name (pv 5)) (e_name (pv 2))) (e_ix (e_name (pv 6)) (e_name (pv 3))) (nomark _)))) (fun _ _ _ _ _ => (e_tup (x_cons (e_name (pv 5)) (x_cons (e_name (pv 6)) x_nil)))))))))
      (ss_one (s_frz 4 (s_ret (e_name (pv 4)))))))) (fun oo ds Kc h => ?_)
  · obtain ⟨a, b, c, o, rfl, rfl, _⟩ := h
    rfl
  · obtain ⟨a, b, c, o, rfl, rfl, la, lb, c0, o0, ha, hb, k⟩ := h
    simp only [aName_eq, nm_dat, nm_own, dd_dat, dd_own, bb_bool, arg_dat, arg_own, arg_ali, das_nil, das_dat, cont_list, cont_tup, cont_own, cont_ali, contS_own, ownL_own, ownO_own, stor_dat, stor_own, iD_int, ii_int, i1_int, sAddU_int, sAddU_tup, truS_none, truS_bool, truS_int, truS_list, truS_tup, truS_ali, srcOf_list, srcOf_tup, srcOf_ali, Ab.got_some, gZ_nil, gC_cons, gT_tup, onlyDat_dat, notAli_dat, notAli_own, getO_some, fin_none, fin_some, finO_own, callA_nil, callA_dat, callA_ali, argS_none, argS_some, rt_ad, nx_ad, isN_none, isN_tup, notN_none, notN_tup, aNx, aRet, aIf, aSet, aAug, aDrop, aNever, aC, aBin, aBinR, aUn, aTst, aChain, aNot, aAnd, aOr, aIfE, aAndV, aOrV, aNotV, aNil, aCons, aTup, aLst, aCall1, aCallD, aIx, aApp, aExt, aSetIx, aTru, sLen, sAny, sAll, sSum, sList, sTuple, fI, fC, fB, aSeqI, aRng1, aFor, aFrz, gN, aUnp, aLc, aYes, aCall, aRep, aRgT, turn, wipeA, br_true, br_false, List.map_nil, List.map_cons, List.nil_append, List.cons_append, List.replicate, List.getElem?_cons_zero, List.getElem?_cons_succ, List.set_cons_zero, List.set_cons_succ, List.length_cons, List.length_nil, enS_list, enS_tup, aNotT, aEnum, aRev, aAugD, sLt_int, sLt_ints, sRepT_tup, aCall2, sIsB_eq, sNotB_eq, aDnew, aSortD, ownD_own, aSda, aTupD, datAt_dat, sAllD, aSortSetI, isN_int, notN_int, sIn_int, sNotIn_int, sEq_int, sNe_int, sEq_bool, sNe_bool, sEq_str, aSeq]
    have fl : ∀ (x : List Row), x.length ≤ 40 → (pairsF x b c o).length ≤ 1600 := fun x hx => by
      unfold pairsF
      have : ∀ y : List Row, ((y.map fun r => (b.filter fun m => decide (col c r = col o m)).map fun m => (r, m)).flatten).length ≤ y.length * 40 := fun y => by
        induction y with
        | nil => simp
        | cons r y ih =>
          rw [List.map_cons, List.flatten_cons, List.length_append, List.length_map, List.length_cons]
          have := List.length_filter_le (fun m => decide (col c r = col o m)) b
          omega
      have := this x
      omega
    refine ⟨small_le (by decide), trivial, fun _ => trivial, ?_⟩
    refine for_inv (enc := tI) (xs := a) (fun pre ρ => ∃ x5, ρ = [some (.dat (eR a)), some (.dat (eR b)), some (.dat (.int c)), some (.dat (.int o)), some (.own none (.lst ((pairsF pre b c o).map fun p => .tuple [tI p.1, tI p.2]))), x5, none]) ⟨none, rfl⟩ ?_ ?_
    · rintro pre r post e ρ ⟨x5, rfl⟩ Kn kn
      have hr := ha r (by rw [e]; simp)
      have hpl : pre.length ≤ 40 := by
        have z := congrArg List.length e
        rw [List.length_append] at z
        omega
      have f1 := fl pre hpl
      simp only [eR, aName_eq, nm_dat, nm_own, dd_dat, dd_own, bb_bool, arg_dat, arg_own, arg_ali, das_nil, das_dat, cont_list, cont_tup, cont_own, cont_ali, contS_own, ownL_own, ownO_own, stor_dat, stor_own, iD_int, ii_int, i1_int, sAddU_int, sAddU_tup, truS_none, truS_bool, truS_int, truS_list, truS_tup, truS_ali, srcOf_list, srcOf_tup, srcOf_ali, Ab.got_some, gZ_nil, gC_cons, gT_tup, onlyDat_dat, notAli_dat, notAli_own, getO_some, fin_none, fin_some, finO_own, callA_nil, callA_dat, callA_ali, argS_none, argS_some, rt_ad, nx_ad, isN_none, isN_tup, notN_none, notN_tup, aNx, aRet, aIf, aSet, aAug, aDrop, aNever, aC, aBin, aBinR, aUn, aTst, aChain, aNot, aAnd, aOr, aIfE, aAndV, aOrV, aNotV, aNil, aCons, aTup, aLst, aCall1, aCallD, aIx, aApp, aExt, aSetIx, aTru, sLen, sAny, sAll, sSum, sList, sTuple, fI, fC, fB, aSeqI, aRng1, aFor, aFrz, gN, aUnp, aLc, aYes, aCall, aRep, aRgT, turn, wipeA, br_true, br_false, List.map_nil, List.map_cons, List.nil_append, List.cons_append, List.replicate, List.getElem?_cons_zero, List.getElem?_cons_succ, List.set_cons_zero, List.set_cons_succ, List.length_cons, List.length_nil, enS_list, enS_tup, aNotT, aEnum, aRev, aAugD, sLt_int, sLt_ints, sRepT_tup, aCall2, sIsB_eq, sNotB_eq, aDnew, aSortD, ownD_own, aSda, aTupD, datAt_dat, sAllD, aSortSetI, isN_int, notN_int, sIn_int, sNotIn_int, sEq_int, sNe_int, sEq_bool, sNe_bool, sEq_str, aSeq]
      refine lc_pure (enc := tI) (fun m => decide (col c r = col o m)) (fun m => .tuple [tI r, tI m]) trivial (by simp [Ab.freeOf]) (small_len (by omega)) (fun m hm Ka Ks ka ks => ?_) ?_
      · have hm2 := hb m hm
        have q1 : atI (r.map PyData.int) c = some (.int (col c r)) := atI_nn c0 (by omega)
        have q2 : atI (m.map PyData.int) o = some (.int (col o m)) := atI_nn o0 (by omega)
        simp only [tI, q1, q2, aName_eq, nm_dat, nm_own, dd_dat, dd_own, bb_bool, arg_dat, arg_own, arg_ali, das_nil, das_dat, cont_list, cont_tup, cont_own, cont_ali, contS_own, ownL_own, ownO_own, stor_dat, stor_own, iD_int, ii_int, i1_int, sAddU_int, sAddU_tup, truS_none, truS_bool, truS_int, truS_list, truS_tup, truS_ali, srcOf_list, srcOf_tup, srcOf_ali, Ab.got_some, gZ_nil, gC_cons, gT_tup, onlyDat_dat, notAli_dat, notAli_own, getO_some, fin_none, fin_some, finO_own, callA_nil, callA_dat, callA_ali, argS_none, argS_some, rt_ad, nx_ad, isN_none, isN_tup, notN_none, notN_tup, aNx, aRet, aIf, aSet, aAug, aDrop, aNever, aC, aBin, aBinR, aUn, aTst, aChain, aNot, aAnd, aOr, aIfE, aAndV, aOrV, aNotV, aNil, aCons, aTup, aLst, aCall1, aCallD, aIx, aApp, aExt, aSetIx, aTru, sLen, sAny, sAll, sSum, sList, sTuple, fI, fC, fB, aSeqI, aRng1, aFor, aFrz, gN, aUnp, aLc, aYes, aCall, aRep, aRgT, turn, wipeA, br_true, br_false, List.map_nil, List.map_cons, List.nil_append, List.cons_append, List.replicate, List.getElem?_cons_zero, List.getElem?_cons_succ, List.set_cons_zero, List.set_cons_succ, List.length_cons, List.length_nil, enS_list, enS_tup, aNotT, aEnum, aRev, aAugD, sLt_int, sLt_ints, sRepT_tup, aCall2, sIsB_eq, sNotB_eq, aDnew, aSortD, ownD_own, aSda, aTupD, datAt_dat, sAllD, aSortSetI, isN_int, notN_int, sIn_int, sNotIn_int, sEq_int, sNe_int, sEq_bool, sNe_bool, sEq_str, aSeq]
        exact ⟨fun hh => ⟨small_le (by decide), ka hh⟩, ks⟩
      · have f2 := List.length_filter_le (fun m => decide (col c r = col o m)) b
        simp only [List.length_map, aName_eq, nm_dat, nm_own, dd_dat, dd_own, bb_bool, arg_dat, arg_own, arg_ali, das_nil, das_dat, cont_list, cont_tup, cont_own, cont_ali, contS_own, ownL_own, ownO_own, stor_dat, stor_own, iD_int, ii_int, i1_int, sAddU_int, sAddU_tup, truS_none, truS_bool, truS_int, truS_list, truS_tup, truS_ali, srcOf_list, srcOf_tup, srcOf_ali, Ab.got_some, gZ_nil, gC_cons, gT_tup, onlyDat_dat, notAli_dat, notAli_own, getO_some, fin_none, fin_some, finO_own, callA_nil, callA_dat, callA_ali, argS_none, argS_some, rt_ad, nx_ad, isN_none, isN_tup, notN_none, notN_tup, aNx, aRet, aIf, aSet, aAug, aDrop, aNever, aC, aBin, aBinR, aUn, aTst, aChain, aNot, aAnd, aOr, aIfE, aAndV, aOrV, aNotV, aNil, aCons, aTup, aLst, aCall1, aCallD, aIx, aApp, aExt, aSetIx, aTru, sLen, sAny, sAll, sSum, sList, sTuple, fI, fC, fB, aSeqI, aRng1, aFor, aFrz, gN, aUnp, aLc, aYes, aCall, aRep, aRgT, turn, wipeA, br_true, br_false, List.map_nil, List.map_cons, List.nil_append, List.cons_append, List.replicate, List.getElem?_cons_zero, List.getElem?_cons_succ, List.set_cons_zero, List.set_cons_succ, List.length_cons, List.length_nil, enS_list, enS_tup, aNotT, aEnum, aRev, aAugD, sLt_int, sLt_ints, sRepT_tup, aCall2, sIsB_eq, sNotB_eq, aDnew, aSortD, ownD_own, aSda, aTupD, datAt_dat, sAllD, aSortSetI, isN_int, notN_int, sIn_int, sNotIn_int, sEq_int, sNe_int, sEq_bool, sNe_bool, sEq_str, aSeq]
        refine ⟨small_le (Nat.le_trans (Nat.add_le_add f1 (Nat.le_trans (List.length_filter_le _ _) lb)) (by decide)), kn _ ⟨some (.dat (tI r)), ?_⟩⟩
        have e2 : pairsF (pre ++ [r]) b c o = pairsF pre b c o ++ (b.filter fun m => decide (col c r = col o m)).map fun m => (r, m) := by
          unfold pairsF
          rw [List.map_append, List.flatten_append]
          simp
        rw [e2, List.map_append, List.map_map]
        rfl
    · rintro ρ ⟨x5, rfl⟩
      simp only [aName_eq, nm_dat, nm_own, dd_dat, dd_own, bb_bool, arg_dat, arg_own, arg_ali, das_nil, das_dat, cont_list, cont_tup, cont_own, cont_ali, contS_own, ownL_own, ownO_own, stor_dat, stor_own, iD_int, ii_int, i1_int, sAddU_int, sAddU_tup, truS_none, truS_bool, truS_int, truS_list, truS_tup, truS_ali, srcOf_list, srcOf_tup, srcOf_ali, Ab.got_some, gZ_nil, gC_cons, gT_tup, onlyDat_dat, notAli_dat, notAli_own, getO_some, fin_none, fin_some, finO_own, callA_nil, callA_dat, callA_ali, argS_none, argS_some, rt_ad, nx_ad, isN_none, isN_tup, notN_none, notN_tup, aNx, aRet, aIf, aSet, aAug, aDrop, aNever, aC, aBin, aBinR, aUn, aTst, aChain, aNot, aAnd, aOr, aIfE, aAndV, aOrV, aNotV, aNil, aCons, aTup, aLst, aCall1, aCallD, aIx, aApp, aExt, aSetIx, aTru, sLen, sAny, sAll, sSum, sList, sTuple, fI, fC, fB, aSeqI, aRng1, aFor, aFrz, gN, aUnp, aLc, aYes, aCall, aRep, aRgT, turn, wipeA, br_true, br_false, List.map_nil, List.map_cons, List.nil_append, List.cons_append, List.replicate, List.getElem?_cons_zero, List.getElem?_cons_succ, List.set_cons_zero, List.set_cons_succ, List.length_cons, List.length_nil, enS_list, enS_tup, aNotT, aEnum, aRev, aAugD, sLt_int, sLt_ints, sRepT_tup, aCall2, sIsB_eq, sNotB_eq, aDnew, aSortD, ownD_own, aSda, aTupD, datAt_dat, sAllD, aSortSetI, isN_int, notN_int, sIn_int, sNotIn_int, sEq_int, sNe_int, sEq_bool, sNe_bool, sEq_str, aSeq]
      exact k
theorem ok_check_two (D : Defs K mg) : FnOk P w K mg base CX0 2 D.f_check_two D.fd_check_two ["first", "key", "second", "other_key", "column", "other"] (toSp K sp_check_two) := by
  have G_check_broken : FnOk P w K mg base CX0 1 D.f_check_broken D.fd_check_broken ["rows", "key"] (toSp K sp_check_broken) := ok_check_broken D
  refine ok_def D.F_check_two sc_check_two (fun oo ds Kc h => ?_) (fun cdv A outer s H E hr =>
      (ss_cons (s_expr (e_call G_check_broken (hr.mono (by decide)) (by rfl) D.g_check_broken D.F_check_broken.kp D.n_check_broken (x_cons (e_name (pv 0)) (x_cons (e_name (pv 1)) x_nil))))
      (ss_cons (s_expr (e_call G_check_broken (hr.mono (by decide)) (by rfl) D.g_check_broken D.F_check_broken.kp D.n_check_broken (x_cons (e_name (pv 2)) (x_cons (e_name (pv 3)) x_nil))))
      (ss_cons (s_if (t_w (w_andC (t_truth (e_name (pv 0))) (w_and1 (t_not (t_chain op_le dr_b op_lt dr_b e_int (e_name (pv 4)) (e_callB call_len_seq dc_len (by rfl) D.b_len PySem.boot_len (e_ix (e_name (pv 0)) e_int))))))) ss_never ss_nil)
      (ss_one (s_if (t_w (w_andC (t_truth (e_name (pv 2))) (w_and1 (t_not (t_chain op_le dr_b op_lt dr_b e_int (e_name (pv 5)) (e_callB call_len_seq dc_len (by rfl) D.b_len PySem.boot_len (e_ix (e_name (pv 2)) e_int))))))) ss_never ss_nil)))))) (fun oo ds Kc h => ?_)
  · obtain ⟨w1, w2, a, k1, b, k2, c, o, rfl, rfl, _⟩ := h
    rfl
  · obtain ⟨w1, w2, a, k1, b, k2, c, o, rfl, rfl, hA, hB, c0, c1, o0, o1, k⟩ := h
    simp only [aName_eq, nm_dat, nm_own, dd_dat, dd_own, bb_bool, arg_dat, arg_own, arg_ali, das_nil, das_dat, cont_list, cont_tup, cont_own, cont_ali, contS_own, ownL_own, ownO_own, stor_dat, stor_own, iD_int, ii_int, i1_int, sAddU_int, sAddU_tup, truS_none, truS_bool, truS_int, truS_list, truS_tup, truS_ali, srcOf_list, srcOf_tup, srcOf_ali, Ab.got_some, gZ_nil, gC_cons, gT_tup, onlyDat_dat, notAli_dat, notAli_own, getO_some, fin_none, fin_some, finO_own, callA_nil, callA_dat, callA_ali, argS_none, argS_some, rt_ad, nx_ad, isN_none, isN_tup, notN_none, notN_tup, aNx, aRet, aIf, aSet, aAug, aDrop, aNever, aC, aBin, aBinR, aUn, aTst, aChain, aNot, aAnd, aOr, aIfE, aAndV, aOrV, aNotV, aNil, aCons, aTup, aLst, aCall1, aCallD, aIx, aApp, aExt, aSetIx, aTru, sLen, sAny, sAll, sSum, sList, sTuple, fI, fC, fB, aSeqI, aRng1, aFor, aFrz, gN, aUnp, aLc, aYes, aCall, aRep, aRgT, turn, wipeA, br_true, br_false, List.map_nil, List.map_cons, List.nil_append, List.cons_append, List.replicate, List.getElem?_cons_zero, List.getElem?_cons_succ, List.set_cons_zero, List.set_cons_succ, List.length_cons, List.length_nil, enS_list, enS_tup, aNotT, aEnum, aRev, aAugD, sLt_int, sLt_ints, sRepT_tup, aCall2, sIsB_eq, sNotB_eq, aDnew, aSortD, ownD_own, aSda, aTupD, datAt_dat, sAllD, aSortSetI, isN_int, notN_int, sIn_int, sNotIn_int, sEq_int, sNe_int, sEq_bool, sNe_bool, sEq_str, aSeq]
    refine ⟨w1, a, k1, rfl, rfl, hA, rfl, w2, b, k2, rfl, rfl, hB, rfl, ?_⟩
    have hA0 : 0 < a.length := List.length_pos_iff.mpr hA.ne
    have hB0 : 0 < b.length := List.length_pos_iff.mpr hB.ne
    have ea : atI (a.map tI) 0 = some (tI a[0]) := atI_map tI hA0
    have eb : atI (b.map tI) 0 = some (tI b[0]) := atI_map tI hB0
    have wa := hA.wid a[0] (List.getElem_mem hA0)
    have wb := hB.wid b[0] (List.getElem_mem hB0)
    have na : (!a.isEmpty) = true := by
      cases a with
      | nil => exact absurd rfl hA.ne
      | cons a b => rfl
    have nb : (!b.isEmpty) = true := by
      cases b with
      | nil => exact absurd rfl hB.ne
      | cons a b => rfl
    have b0 : decide (0 ≤ c) = true := decide_eq_true c0
    have b1 : decide (0 ≤ o) = true := decide_eq_true o0
    have b2 : decide (c < (a[0].length : Int)) = true := decide_eq_true (by rw [wa]; exact c1)
    have b3 : decide (o < (b[0].length : Int)) = true := decide_eq_true (by rw [wb]; exact o1)
    simp only [emp_map, na, nb, ea, eb, b0, b1, tI, List.length_map, b2, b3, Bool.not_true, aName_eq, nm_dat, nm_own, dd_dat, dd_own, bb_bool, arg_dat, arg_own, arg_ali, das_nil, das_dat, cont_list, cont_tup, cont_own, cont_ali, contS_own, ownL_own, ownO_own, stor_dat, stor_own, iD_int, ii_int, i1_int, sAddU_int, sAddU_tup, truS_none, truS_bool, truS_int, truS_list, truS_tup, truS_ali, srcOf_list, srcOf_tup, srcOf_ali, Ab.got_some, gZ_nil, gC_cons, gT_tup, onlyDat_dat, notAli_dat, notAli_own, getO_some, fin_none, fin_some, finO_own, callA_nil, callA_dat, callA_ali, argS_none, argS_some, rt_ad, nx_ad, isN_none, isN_tup, notN_none, notN_tup, aNx, aRet, aIf, aSet, aAug, aDrop, aNever, aC, aBin, aBinR, aUn, aTst, aChain, aNot, aAnd, aOr, aIfE, aAndV, aOrV, aNotV, aNil, aCons, aTup, aLst, aCall1, aCallD, aIx, aApp, aExt, aSetIx, aTru, sLen, sAny, sAll, sSum, sList, sTuple, fI, fC, fB, aSeqI, aRng1, aFor, aFrz, gN, aUnp, aLc, aYes, aCall, aRep, aRgT, turn, wipeA, br_true, br_false, List.map_nil, List.map_cons, List.nil_append, List.cons_append, List.replicate, List.getElem?_cons_zero, List.getElem?_cons_succ, List.set_cons_zero, List.set_cons_succ, List.length_cons, List.length_nil, enS_list, enS_tup, aNotT, aEnum, aRev, aAugD, sLt_int, sLt_ints, sRepT_tup, aCall2, sIsB_eq, sNotB_eq, aDnew, aSortD, ownD_own, aSda, aTupD, datAt_dat, sAllD, aSortSetI, isN_int, notN_int, sIn_int, sNotIn_int, sEq_int, sNe_int, sEq_bool, sNe_bool, sEq_str, aSeq]
    exact k
end
end K69

set_option maxHeartbeats 4000000
namespace K69
open PySem PySem.Spec PyProof.Rows L2 Ab
theorem at_0 {a : PyData} {r : List PyData} : atI (a :: r) 0 = some a := atI_nat (j := 0) rfl
theorem at_1 {a b : PyData} {r : List PyData} : atI (a :: b :: r) 1 = some b := atI_nat (j := 1) rfl
theorem at_2 {a b c : PyData} {r : List PyData} : atI (a :: b :: c :: r) 2 = some c := atI_nat (j := 2) rfl
theorem at_3 {a b c d : PyData} {r : List PyData} : atI (a :: b :: c :: d :: r) 3 = some d := atI_nat (j := 3) rfl
theorem ix4_1 : ixN (0 + 1 + 1 + 1 + 1) 1 = some 1 := rfl
theorem ix4_2 : ixN (0 + 1 + 1 + 1 + 1) 2 = some 2 := rfl
theorem ix4_3 : ixN (0 + 1 + 1 + 1 + 1) 3 = some 3 := rfl
theorem fm_rng {a b : Int} (h : 1 ≤ b) : 0 ≤ a.fmod b ∧ a.fmod b < b := by
  rw [Int.fmod_eq_emod_of_nonneg _ (by omega)]
  exact ⟨Int.emod_nonneg _ (by omega), Int.emod_lt_of_pos _ (by omega)⟩
theorem fd_nn {a b : Int} (h0 : 0 ≤ a) (h : 1 ≤ b) : 0 ≤ a.fdiv b := by
  rw [Int.fdiv_eq_ediv_of_nonneg _ (by omega)]
  exact Int.ediv_nonneg h0 (by omega)
def NoOwn (x : Option AV) : Prop := match (some x : Option (Option AV)) with
  | some (some (.own _ _)) => False
  | _ => True
theorem prodL_nn (gs : List (List Row)) : 0 ≤ prodL gs := by
  have : ∀ (gs : List (List Row)) (n : Int), 0 ≤ n → 0 ≤ gs.foldl (fun n g => n * (g.length : Int)) n := fun gs => by
    induction gs with
    | nil => intro n h; exact h
    | cons g gs ih => intro n h; exact ih _ (Int.mul_nonneg h (by omega))
  exact this gs 1 (by decide)
theorem srt_lt {l : List Row} (h : Srt l) (nd : l.Nodup) : l.Pairwise (· < ·) := by
  induction l with
  | nil => exact .nil
  | cons a l ih =>
    rw [List.nodup_cons] at nd
    have h := List.pairwise_cons.mp h
    refine .cons (fun b hb => ?_) (ih h.2 nd.2)
    have h1 := (leT_iff a b).mp (h.1 b hb)
    refine Classical.byContradiction fun z => ?_
    have : a = b := List.le_antisymm h1 (List.not_lt.mp z)
    rw [this] at nd
    exact nd.1 hb
section
variable {P : Program} {w : World} {K : PySem.W.Frag} {mg : Str → Option Value} {base : Heap}
theorem ok_apart (D : Defs K mg) : FnOk P w K mg base CX0 4 D.f_apart D.fd_apart ["first", "key", "second", "other_key", "column", "other"] (toSp K sp_apart) := by
  have G_check_two : FnOk P w K mg base CX0 2 D.f_check_two D.fd_check_two ["first", "key", "second", "other_key", "column", "other"] (toSp K sp_check_two) := ok_check_two D
  have G_count : FnOk P w K mg base CX0 2 D.f_count D.fd_count ["rows", "key"] (toSp K sp_count) := ok_count D
  have G_mending_at : FnOk P w K mg base CX0 3 D.f_mending_at D.fd_mending_at ["rows", "key", "number"] (toSp K sp_mending_at) := ok_mending_at D
  have G_groups_of : FnOk P w K mg base CX0 1 D.f_groups_of D.fd_groups_of ["rows", "key"] (toSp K sp_groups_of) := ok_groups_of D
  refine ok_def D.F_apart sc_apart (fun oo ds Kc h => ?_) (fun cdv A outer s H E hr =>
      (ss_cons (s_expr (e_call G_check_two (hr.mono (by decide)) (by rfl) D.g_check_two D.F_check_two.kp D.n_check_two (x_cons (e_name (pv 0)) (x_cons (e_name (pv 1)) (x_cons (e_name (pv 2)) (x_cons (e_name (pv 3)) (x_cons (e_name (pv 4)) (x_cons (e_name (pv 5)) x_nil))))))))
      (ss_cons (s_if (t_cmp op_gt dr_b (e_call G_count (hr.mono (by decide)) (by rfl) D.g_count D.F_count.kp D.n_count (x_cons (e_name (pv 0)) (x_cons (e_name (pv 1)) x_nil))) (e_globI (by rfl) D.c_MOST_MENDINGS) (nomark _)) ss_never ss_nil)
      (ss_cons (s_for PassesOwn.never rfl (i_rng1 (by rfl) D.b_range (e_call G_count (hr.mono (by decide)) (by rfl) D.g_count D.F_count.kp D.n_count (x_cons (e_name (pv 0)) (x_cons (e_name (pv 1)) x_nil)))) (g_name (pg_name (i := 6) sc_apart.nd rfl (.inl rfl))) (ss_cons (s_set (ps_set (i := 7) sc_apart.nd rfl (.inl rfl) (e_call G_mending_at (hr.mono (by decide)) (by rfl) D.g_mending_at D.F_mending_at.kp D.n_mending_at (x_cons (e_name (pv 0)) (x_cons (e_name (pv 1)) (x_cons (e_name (pv 6)) x_nil))))))
      (ss_cons (s_set (ps_set (i := 8) sc_apart.nd rfl (.inr rfl) (e_lc (own := [("row", 9)]) rfl sc_apart.nd (i_seq (e_name (pv 7))) (blkOk_by (by kernel_rfl)) (fun _ _ _ _ _ => (g_name (pg_name (i := 9) sc_apart.nd rfl (by first | exact Or.inl rfl | exact Or.inr rfl)))) (fun _ _ _ _ _ => ts_nil) (fun _ _ _ _ _ => (e_ix (e_name (pv 9)) (e_name (pv 4)))))))
      (ss_cons (s_set (ps_set (i := 10) sc_apart.nd rfl (.inl rfl) (e_lst x_nil)))
      (ss_cons (s_for PassesOwn.never rfl (i_seq (e_call G_groups_of (hr.mono (by decide)) (by rfl) D.g_groups_of D.F_groups_of.kp D.n_groups_of (x_cons (e_name (pv 2)) (x_cons (e_name (pv 3)) x_nil)))) (g_name (pg_name (i := 11) sc_apart.nd rfl (.inl rfl))) (ss_one (s_app (pe_append (pv 10) (e_lc (own := [("row", 9)]) rfl sc_apart.nd (i_seq (e_name (pv 11))) (blkOk_by (by kernel_rfl)) (fun _ _ _ _ _ => (g_name (pg_name (i := 9) sc_apart.nd rfl (by first | exact Or.inl rfl | exact Or.inr rfl)))) (fun _ _ _ _ _ => (ts_one (t_cmpS (op_notInP hr.units) dr_notIn (e_ix (e_name (pv 9)) (e_name (pv 5))) (e_name (pv 8))))) (fun _ _ _ _ _ => (e_name (pv 9))))))))
      (ss_one (s_if (t_truth (e_callB (cr_allD rfl) dc_allD (by rfl) D.b_all boot_all (e_name (pv 10)))) (ss_one (s_ret (e_tup (x_cons (e_name (pv 7)) (x_cons (e_callTy call_tuple_of dc_tuple (by rfl) D.b_tuple boot_tuple (e_lc (own := [("group", 11)]) rfl sc_apart.nd (i_seq (e_name (pv 10))) (blkOk_by (by kernel_rfl)) (fun _ _ _ _ _ => (g_name (pg_name (i := 11) sc_apart.nd rfl (by first | exact Or.inl rfl | exact Or.inr rfl)))) (fun _ _ _ _ _ => ts_nil) (fun _ _ _ _ _ => (e_ix (e_name (pv 11)) e_int)))) x_nil))))) ss_nil)))))))
      (ss_one (s_ret e_non)))))) (fun oo ds Kc h => ?_)
  · obtain ⟨w1, w2, a, k1, b, k2, c, o, rfl, rfl, _⟩ := h
    rfl
  · obtain ⟨w1, w2, a, k1, b, k2, c, o, rfl, rfl, hA, hB, c0, c1, o0, o1, h5, k⟩ := h
    simp only [aName_eq, nm_dat, nm_own, dd_dat, dd_own, bb_bool, arg_dat, arg_own, arg_ali, das_nil, das_dat, cont_list, cont_tup, cont_own, cont_ali, contS_own, ownL_own, ownO_own, stor_dat, stor_own, iD_int, ii_int, i1_int, sAddU_int, sAddU_tup, truS_none, truS_bool, truS_int, truS_list, truS_tup, truS_ali, srcOf_list, srcOf_tup, srcOf_ali, Ab.got_some, gZ_nil, gC_cons, gT_tup, onlyDat_dat, notAli_dat, notAli_own, getO_some, fin_none, fin_some, finO_own, callA_nil, callA_dat, callA_ali, argS_none, argS_some, rt_ad, nx_ad, isN_none, isN_tup, notN_none, notN_tup, aNx, aRet, aIf, aSet, aAug, aDrop, aNever, aC, aBin, aBinR, aUn, aTst, aChain, aNot, aAnd, aOr, aIfE, aAndV, aOrV, aNotV, aNil, aCons, aTup, aLst, aCall1, aCallD, aIx, aApp, aExt, aSetIx, aTru, sLen, sAny, sAll, sSum, sList, sTuple, fI, fC, fB, aSeqI, aRng1, aFor, aFrz, gN, aUnp, aLc, aYes, aCall, aRep, aRgT, turn, wipeA, br_true, br_false, List.map_nil, List.map_cons, List.nil_append, List.cons_append, List.replicate, List.getElem?_cons_zero, List.getElem?_cons_succ, List.set_cons_zero, List.set_cons_succ, List.length_cons, List.length_nil, enS_list, enS_tup, aNotT, aEnum, aRev, aAugD, sLt_int, sLt_ints, sRepT_tup, aCall2, sIsB_eq, sNotB_eq, aDnew, aSortD, ownD_own, aSda, aTupD, datAt_dat, sAllD, aSortSetI, isN_int, notN_int, sIn_int, sNotIn_int, sEq_int, sNe_int, sEq_bool, sNe_bool, sEq_str, aSeq]
    refine ⟨w1, w2, a, k1, b, k2, c, o, rfl, rfl, hA, hB, c0, c1, o0, o1, rfl, ?_⟩
    simp only [aName_eq, nm_dat, nm_own, dd_dat, dd_own, bb_bool, arg_dat, arg_own, arg_ali, das_nil, das_dat, cont_list, cont_tup, cont_own, cont_ali, contS_own, ownL_own, ownO_own, stor_dat, stor_own, iD_int, ii_int, i1_int, sAddU_int, sAddU_tup, truS_none, truS_bool, truS_int, truS_list, truS_tup, truS_ali, srcOf_list, srcOf_tup, srcOf_ali, Ab.got_some, gZ_nil, gC_cons, gT_tup, onlyDat_dat, notAli_dat, notAli_own, getO_some, fin_none, fin_some, finO_own, callA_nil, callA_dat, callA_ali, argS_none, argS_some, rt_ad, nx_ad, isN_none, isN_tup, notN_none, notN_tup, aNx, aRet, aIf, aSet, aAug, aDrop, aNever, aC, aBin, aBinR, aUn, aTst, aChain, aNot, aAnd, aOr, aIfE, aAndV, aOrV, aNotV, aNil, aCons, aTup, aLst, aCall1, aCallD, aIx, aApp, aExt, aSetIx, aTru, sLen, sAny, sAll, sSum, sList, sTuple, fI, fC, fB, aSeqI, aRng1, aFor, aFrz, gN, aUnp, aLc, aYes, aCall, aRep, aRgT, turn, wipeA, br_true, br_false, List.map_nil, List.map_cons, List.nil_append, List.cons_append, List.replicate, List.getElem?_cons_zero, List.getElem?_cons_succ, List.set_cons_zero, List.set_cons_succ, List.length_cons, List.length_nil, enS_list, enS_tup, aNotT, aEnum, aRev, aAugD, sLt_int, sLt_ints, sRepT_tup, aCall2, sIsB_eq, sNotB_eq, aDnew, aSortD, ownD_own, aSda, aTupD, datAt_dat, sAllD, aSortSetI, isN_int, notN_int, sIn_int, sNotIn_int, sEq_int, sNe_int, sEq_bool, sNe_bool, sEq_str, aSeq]
    refine ⟨w1, a, k1, rfl, rfl, hA, rfl, ?_⟩
    have b0 : decide (5000 < countF a k1) = false := decide_eq_false (by omega)
    simp only [dd_dat, ii_int, fB, bb_bool, b0, br_false, aName_eq, nm_dat, nm_own, dd_dat, dd_own, bb_bool, arg_dat, arg_own, arg_ali, das_nil, das_dat, cont_list, cont_tup, cont_own, cont_ali, contS_own, ownL_own, ownO_own, stor_dat, stor_own, iD_int, ii_int, i1_int, sAddU_int, sAddU_tup, truS_none, truS_bool, truS_int, truS_list, truS_tup, truS_ali, srcOf_list, srcOf_tup, srcOf_ali, Ab.got_some, gZ_nil, gC_cons, gT_tup, onlyDat_dat, notAli_dat, notAli_own, getO_some, fin_none, fin_some, finO_own, callA_nil, callA_dat, callA_ali, argS_none, argS_some, rt_ad, nx_ad, isN_none, isN_tup, notN_none, notN_tup, aNx, aRet, aIf, aSet, aAug, aDrop, aNever, aC, aBin, aBinR, aUn, aTst, aChain, aNot, aAnd, aOr, aIfE, aAndV, aOrV, aNotV, aNil, aCons, aTup, aLst, aCall1, aCallD, aIx, aApp, aExt, aSetIx, aTru, sLen, sAny, sAll, sSum, sList, sTuple, fI, fC, fB, aSeqI, aRng1, aFor, aFrz, gN, aUnp, aLc, aYes, aCall, aRep, aRgT, turn, wipeA, br_true, br_false, List.map_nil, List.map_cons, List.nil_append, List.cons_append, List.replicate, List.getElem?_cons_zero, List.getElem?_cons_succ, List.set_cons_zero, List.set_cons_succ, List.length_cons, List.length_nil, enS_list, enS_tup, aNotT, aEnum, aRev, aAugD, sLt_int, sLt_ints, sRepT_tup, aCall2, sIsB_eq, sNotB_eq, aDnew, aSortD, ownD_own, aSda, aTupD, datAt_dat, sAllD, aSortSetI, isN_int, notN_int, sIn_int, sNotIn_int, sEq_int, sNe_int, sEq_bool, sNe_bool, sEq_str, aSeq]
    have hgA := groups_len hA
    have hgB := groups_len hB
    have neA : ∀ g ∈ groupsF a k1, g ≠ [] := fun g hg => (groups_ok hA g hg).ne
    refine ⟨w1, a, k1, rfl, rfl, hA, rfl, ?_⟩
    have pn : 0 ≤ countF a k1 := prodL_nn _
    simp only [aName_eq, nm_dat, nm_own, dd_dat, dd_own, bb_bool, arg_dat, arg_own, arg_ali, das_nil, das_dat, cont_list, cont_tup, cont_own, cont_ali, contS_own, ownL_own, ownO_own, stor_dat, stor_own, iD_int, ii_int, i1_int, sAddU_int, sAddU_tup, truS_none, truS_bool, truS_int, truS_list, truS_tup, truS_ali, srcOf_list, srcOf_tup, srcOf_ali, Ab.got_some, gZ_nil, gC_cons, gT_tup, onlyDat_dat, notAli_dat, notAli_own, getO_some, fin_none, fin_some, finO_own, callA_nil, callA_dat, callA_ali, argS_none, argS_some, rt_ad, nx_ad, isN_none, isN_tup, notN_none, notN_tup, aNx, aRet, aIf, aSet, aAug, aDrop, aNever, aC, aBin, aBinR, aUn, aTst, aChain, aNot, aAnd, aOr, aIfE, aAndV, aOrV, aNotV, aNil, aCons, aTup, aLst, aCall1, aCallD, aIx, aApp, aExt, aSetIx, aTru, sLen, sAny, sAll, sSum, sList, sTuple, fI, fC, fB, aSeqI, aRng1, aFor, aFrz, gN, aUnp, aLc, aYes, aCall, aRep, aRgT, turn, wipeA, br_true, br_false, List.map_nil, List.map_cons, List.nil_append, List.cons_append, List.replicate, List.getElem?_cons_zero, List.getElem?_cons_succ, List.set_cons_zero, List.set_cons_succ, List.length_cons, List.length_nil, enS_list, enS_tup, aNotT, aEnum, aRev, aAugD, sLt_int, sLt_ints, sRepT_tup, aCall2, sIsB_eq, sNotB_eq, aDnew, aSortD, ownD_own, aSda, aTupD, datAt_dat, sAllD, aSortSetI, isN_int, notN_int, sIn_int, sNotIn_int, sEq_int, sNe_int, sEq_bool, sNe_bool, sEq_str, aSeq]
    refine ⟨by omega, by omega, trivial, fun _ => trivial, ?_⟩
    rw [rangeD0]
    refine for_inv (enc := fun (q : Nat) => PyData.int (q : Int)) (xs := List.range (countF a k1).toNat) (fun pre ρ => (∀ v ∈ pre, ((rest (mendF (groupsF a k1) (v : Nat)) (groupsF b k2) c o).all fun g => !g.isEmpty) = false) ∧ ∃ x6 x7 x8 x10 x11, NoOwn x11 ∧ ρ = [some (.dat (eR a)), some (.dat (tI k1)), some (.dat (eR b)), some (.dat (tI k2)), some (.dat (.int c)), some (.dat (.int o)), x6, x7, x8, none, x10, x11]) ⟨fun _ z => (nomatch z), none, none, none, none, none, trivial, rfl⟩ ?_ ?_
    · rintro pre n post e ρ ⟨hp, x6, x7, x8, x10, x11, n11, rfl⟩ Kn kn
      have hn : n < (countF a k1).toNat := by
        have : n ∈ List.range (countF a k1).toNat := by rw [e]; simp
        exact List.mem_range.mp this
      simp only [aName_eq, nm_dat, nm_own, dd_dat, dd_own, bb_bool, arg_dat, arg_own, arg_ali, das_nil, das_dat, cont_list, cont_tup, cont_own, cont_ali, contS_own, ownL_own, ownO_own, stor_dat, stor_own, iD_int, ii_int, i1_int, sAddU_int, sAddU_tup, truS_none, truS_bool, truS_int, truS_list, truS_tup, truS_ali, srcOf_list, srcOf_tup, srcOf_ali, Ab.got_some, gZ_nil, gC_cons, gT_tup, onlyDat_dat, notAli_dat, notAli_own, getO_some, fin_none, fin_some, finO_own, callA_nil, callA_dat, callA_ali, argS_none, argS_some, rt_ad, nx_ad, isN_none, isN_tup, notN_none, notN_tup, aNx, aRet, aIf, aSet, aAug, aDrop, aNever, aC, aBin, aBinR, aUn, aTst, aChain, aNot, aAnd, aOr, aIfE, aAndV, aOrV, aNotV, aNil, aCons, aTup, aLst, aCall1, aCallD, aIx, aApp, aExt, aSetIx, aTru, sLen, sAny, sAll, sSum, sList, sTuple, fI, fC, fB, aSeqI, aRng1, aFor, aFrz, gN, aUnp, aLc, aYes, aCall, aRep, aRgT, turn, wipeA, br_true, br_false, List.map_nil, List.map_cons, List.nil_append, List.cons_append, List.replicate, List.getElem?_cons_zero, List.getElem?_cons_succ, List.set_cons_zero, List.set_cons_succ, List.length_cons, List.length_nil, enS_list, enS_tup, aNotT, aEnum, aRev, aAugD, sLt_int, sLt_ints, sRepT_tup, aCall2, sIsB_eq, sNotB_eq, aDnew, aSortD, ownD_own, aSda, aTupD, datAt_dat, sAllD, aSortSetI, isN_int, notN_int, sIn_int, sNotIn_int, sEq_int, sNe_int, sEq_bool, sNe_bool, sEq_str, aSeq]
      refine ⟨w1, a, k1, (n : Int), rfl, rfl, hA, by omega, by omega, rfl, ?_⟩
      have hkept : ∀ r ∈ mendF (groupsF a k1) n, r.length = w1 := fun r hr => by
        obtain ⟨g, h1, h2⟩ := mendF_mem neA hr
        exact (groups_ok hA g h1).wid r h2
      have hkl := mendF_len (groupsF a k1) n
      generalize hkept' : mendF (groupsF a k1) n = kept at hkept hkl
      simp only [eR, aName_eq, nm_dat, nm_own, dd_dat, dd_own, bb_bool, arg_dat, arg_own, arg_ali, das_nil, das_dat, cont_list, cont_tup, cont_own, cont_ali, contS_own, ownL_own, ownO_own, stor_dat, stor_own, iD_int, ii_int, i1_int, sAddU_int, sAddU_tup, truS_none, truS_bool, truS_int, truS_list, truS_tup, truS_ali, srcOf_list, srcOf_tup, srcOf_ali, Ab.got_some, gZ_nil, gC_cons, gT_tup, onlyDat_dat, notAli_dat, notAli_own, getO_some, fin_none, fin_some, finO_own, callA_nil, callA_dat, callA_ali, argS_none, argS_some, rt_ad, nx_ad, isN_none, isN_tup, notN_none, notN_tup, aNx, aRet, aIf, aSet, aAug, aDrop, aNever, aC, aBin, aBinR, aUn, aTst, aChain, aNot, aAnd, aOr, aIfE, aAndV, aOrV, aNotV, aNil, aCons, aTup, aLst, aCall1, aCallD, aIx, aApp, aExt, aSetIx, aTru, sLen, sAny, sAll, sSum, sList, sTuple, fI, fC, fB, aSeqI, aRng1, aFor, aFrz, gN, aUnp, aLc, aYes, aCall, aRep, aRgT, turn, wipeA, br_true, br_false, List.map_nil, List.map_cons, List.nil_append, List.cons_append, List.replicate, List.getElem?_cons_zero, List.getElem?_cons_succ, List.set_cons_zero, List.set_cons_succ, List.length_cons, List.length_nil, enS_list, enS_tup, aNotT, aEnum, aRev, aAugD, sLt_int, sLt_ints, sRepT_tup, aCall2, sIsB_eq, sNotB_eq, aDnew, aSortD, ownD_own, aSda, aTupD, datAt_dat, sAllD, aSortSetI, isN_int, notN_int, sIn_int, sNotIn_int, sEq_int, sNe_int, sEq_bool, sNe_bool, sEq_str, aSeq]
      refine lc_map (enc := tI) (fun r => .int (col c r)) trivial (by simp [Ab.freeOf]) (small_len (by omega)) (fun r hr Ka Ks ka => ?_) ?_
      · have q1 : atI (r.map PyData.int) c = some (.int (col c r)) := atI_nn c0 (by rw [hkept r hr]; exact c1)
        simp only [tI, q1, aName_eq, nm_dat, nm_own, dd_dat, dd_own, bb_bool, arg_dat, arg_own, arg_ali, das_nil, das_dat, cont_list, cont_tup, cont_own, cont_ali, contS_own, ownL_own, ownO_own, stor_dat, stor_own, iD_int, ii_int, i1_int, sAddU_int, sAddU_tup, truS_none, truS_bool, truS_int, truS_list, truS_tup, truS_ali, srcOf_list, srcOf_tup, srcOf_ali, Ab.got_some, gZ_nil, gC_cons, gT_tup, onlyDat_dat, notAli_dat, notAli_own, getO_some, fin_none, fin_some, finO_own, callA_nil, callA_dat, callA_ali, argS_none, argS_some, rt_ad, nx_ad, isN_none, isN_tup, notN_none, notN_tup, aNx, aRet, aIf, aSet, aAug, aDrop, aNever, aC, aBin, aBinR, aUn, aTst, aChain, aNot, aAnd, aOr, aIfE, aAndV, aOrV, aNotV, aNil, aCons, aTup, aLst, aCall1, aCallD, aIx, aApp, aExt, aSetIx, aTru, sLen, sAny, sAll, sSum, sList, sTuple, fI, fC, fB, aSeqI, aRng1, aFor, aFrz, gN, aUnp, aLc, aYes, aCall, aRep, aRgT, turn, wipeA, br_true, br_false, List.map_nil, List.map_cons, List.nil_append, List.cons_append, List.replicate, List.getElem?_cons_zero, List.getElem?_cons_succ, List.set_cons_zero, List.set_cons_succ, List.length_cons, List.length_nil, enS_list, enS_tup, aNotT, aEnum, aRev, aAugD, sLt_int, sLt_ints, sRepT_tup, aCall2, sIsB_eq, sNotB_eq, aDnew, aSortD, ownD_own, aSda, aTupD, datAt_dat, sAllD, aSortSetI, isN_int, notN_int, sIn_int, sNotIn_int, sEq_int, sNe_int, sEq_bool, sNe_bool, sEq_str, aSeq]
        exact ka
      · rw [show (kept.map fun r => PyData.int (col c r)) = (kept.map (col c)).map PyData.int by rw [List.map_map]; rfl]
        simp only [aName_eq, nm_dat, nm_own, dd_dat, dd_own, bb_bool, arg_dat, arg_own, arg_ali, das_nil, das_dat, cont_list, cont_tup, cont_own, cont_ali, contS_own, ownL_own, ownO_own, stor_dat, stor_own, iD_int, ii_int, i1_int, sAddU_int, sAddU_tup, truS_none, truS_bool, truS_int, truS_list, truS_tup, truS_ali, srcOf_list, srcOf_tup, srcOf_ali, Ab.got_some, gZ_nil, gC_cons, gT_tup, onlyDat_dat, notAli_dat, notAli_own, getO_some, fin_none, fin_some, finO_own, callA_nil, callA_dat, callA_ali, argS_none, argS_some, rt_ad, nx_ad, isN_none, isN_tup, notN_none, notN_tup, aNx, aRet, aIf, aSet, aAug, aDrop, aNever, aC, aBin, aBinR, aUn, aTst, aChain, aNot, aAnd, aOr, aIfE, aAndV, aOrV, aNotV, aNil, aCons, aTup, aLst, aCall1, aCallD, aIx, aApp, aExt, aSetIx, aTru, sLen, sAny, sAll, sSum, sList, sTuple, fI, fC, fB, aSeqI, aRng1, aFor, aFrz, gN, aUnp, aLc, aYes, aCall, aRep, aRgT, turn, wipeA, br_true, br_false, List.map_nil, List.map_cons, List.nil_append, List.cons_append, List.replicate, List.getElem?_cons_zero, List.getElem?_cons_succ, List.set_cons_zero, List.set_cons_succ, List.length_cons, List.length_nil, enS_list, enS_tup, aNotT, aEnum, aRev, aAugD, sLt_int, sLt_ints, sRepT_tup, aCall2, sIsB_eq, sNotB_eq, aDnew, aSortD, ownD_own, aSda, aTupD, datAt_dat, sAllD, aSortSetI, isN_int, notN_int, sIn_int, sNotIn_int, sEq_int, sNe_int, sEq_bool, sNe_bool, sEq_str, aSeq]
        refine ⟨small_le (by decide), w2, b, k2, rfl, rfl, hB, ?_⟩
        simp only [aName_eq, nm_dat, nm_own, dd_dat, dd_own, bb_bool, arg_dat, arg_own, arg_ali, das_nil, das_dat, cont_list, cont_tup, cont_own, cont_ali, contS_own, ownL_own, ownO_own, stor_dat, stor_own, iD_int, ii_int, i1_int, sAddU_int, sAddU_tup, truS_none, truS_bool, truS_int, truS_list, truS_tup, truS_ali, srcOf_list, srcOf_tup, srcOf_ali, Ab.got_some, gZ_nil, gC_cons, gT_tup, onlyDat_dat, notAli_dat, notAli_own, getO_some, fin_none, fin_some, finO_own, callA_nil, callA_dat, callA_ali, argS_none, argS_some, rt_ad, nx_ad, isN_none, isN_tup, notN_none, notN_tup, aNx, aRet, aIf, aSet, aAug, aDrop, aNever, aC, aBin, aBinR, aUn, aTst, aChain, aNot, aAnd, aOr, aIfE, aAndV, aOrV, aNotV, aNil, aCons, aTup, aLst, aCall1, aCallD, aIx, aApp, aExt, aSetIx, aTru, sLen, sAny, sAll, sSum, sList, sTuple, fI, fC, fB, aSeqI, aRng1, aFor, aFrz, gN, aUnp, aLc, aYes, aCall, aRep, aRgT, turn, wipeA, br_true, br_false, List.map_nil, List.map_cons, List.nil_append, List.cons_append, List.replicate, List.getElem?_cons_zero, List.getElem?_cons_succ, List.set_cons_zero, List.set_cons_succ, List.length_cons, List.length_nil, enS_list, enS_tup, aNotT, aEnum, aRev, aAugD, sLt_int, sLt_ints, sRepT_tup, aCall2, sIsB_eq, sNotB_eq, aDnew, aSortD, ownD_own, aSda, aTupD, datAt_dat, sAllD, aSortSetI, isN_int, notN_int, sIn_int, sNotIn_int, sEq_int, sNe_int, sEq_bool, sNe_bool, sEq_str, aSeq]
        refine ⟨trivial, trivial, fun _ => trivial, ?_⟩
        refine for_inv (enc := eR) (xs := groupsF b k2) (fun pre2 ρ => ∃ x11, NoOwn x11 ∧ ρ = [some (.dat (eR a)), some (.dat (tI k1)), some (.dat (eR b)), some (.dat (tI k2)), some (.dat (.int c)), some (.dat (.int o)), some (.dat (.int (n : Int))), some (.dat (eR kept)), some (.own none (.lst ((kept.map (col c)).map PyData.int))), none, some (.own none (.lst ((rest kept pre2 c o).map fun g => .list (g.map tI)))), x11]) ⟨x11, n11, rfl⟩ ?_ ?_
        · rintro pre2 g post2 e2 ρ ⟨y11, m11, rfl⟩ Kn2 kn2
          have hG := groups_ok hB g (by rw [e2]; simp)
          have hgf := hG.few
          have hpl : pre2.length ≤ 40 := by
            have z := congrArg List.length e2
            rw [List.length_append] at z
            omega
          simp only [eR, aName_eq, nm_dat, nm_own, dd_dat, dd_own, bb_bool, arg_dat, arg_own, arg_ali, das_nil, das_dat, cont_list, cont_tup, cont_own, cont_ali, contS_own, ownL_own, ownO_own, stor_dat, stor_own, iD_int, ii_int, i1_int, sAddU_int, sAddU_tup, truS_none, truS_bool, truS_int, truS_list, truS_tup, truS_ali, srcOf_list, srcOf_tup, srcOf_ali, Ab.got_some, gZ_nil, gC_cons, gT_tup, onlyDat_dat, notAli_dat, notAli_own, getO_some, fin_none, fin_some, finO_own, callA_nil, callA_dat, callA_ali, argS_none, argS_some, rt_ad, nx_ad, isN_none, isN_tup, notN_none, notN_tup, aNx, aRet, aIf, aSet, aAug, aDrop, aNever, aC, aBin, aBinR, aUn, aTst, aChain, aNot, aAnd, aOr, aIfE, aAndV, aOrV, aNotV, aNil, aCons, aTup, aLst, aCall1, aCallD, aIx, aApp, aExt, aSetIx, aTru, sLen, sAny, sAll, sSum, sList, sTuple, fI, fC, fB, aSeqI, aRng1, aFor, aFrz, gN, aUnp, aLc, aYes, aCall, aRep, aRgT, turn, wipeA, br_true, br_false, List.map_nil, List.map_cons, List.nil_append, List.cons_append, List.replicate, List.getElem?_cons_zero, List.getElem?_cons_succ, List.set_cons_zero, List.set_cons_succ, List.length_cons, List.length_nil, enS_list, enS_tup, aNotT, aEnum, aRev, aAugD, sLt_int, sLt_ints, sRepT_tup, aCall2, sIsB_eq, sNotB_eq, aDnew, aSortD, ownD_own, aSda, aTupD, datAt_dat, sAllD, aSortSetI, isN_int, notN_int, sIn_int, sNotIn_int, sEq_int, sNe_int, sEq_bool, sNe_bool, sEq_str, aSeq]
          refine lc_pure (enc := tI) (fun r => !decide (col o r ∈ kept.map (col c))) tI trivial (by simp [Ab.freeOf]) (small_len (by omega)) (fun r hr Ka Ks ka ks => ?_) ?_
          · have q1 : atI (r.map PyData.int) o = some (.int (col o r)) := atI_nn o0 (by rw [hG.wid r hr]; exact o1)
            simp only [tI, q1, aName_eq, nm_dat, nm_own, dd_dat, dd_own, bb_bool, arg_dat, arg_own, arg_ali, das_nil, das_dat, cont_list, cont_tup, cont_own, cont_ali, contS_own, ownL_own, ownO_own, stor_dat, stor_own, iD_int, ii_int, i1_int, sAddU_int, sAddU_tup, truS_none, truS_bool, truS_int, truS_list, truS_tup, truS_ali, srcOf_list, srcOf_tup, srcOf_ali, Ab.got_some, gZ_nil, gC_cons, gT_tup, onlyDat_dat, notAli_dat, notAli_own, getO_some, fin_none, fin_some, finO_own, callA_nil, callA_dat, callA_ali, argS_none, argS_some, rt_ad, nx_ad, isN_none, isN_tup, notN_none, notN_tup, aNx, aRet, aIf, aSet, aAug, aDrop, aNever, aC, aBin, aBinR, aUn, aTst, aChain, aNot, aAnd, aOr, aIfE, aAndV, aOrV, aNotV, aNil, aCons, aTup, aLst, aCall1, aCallD, aIx, aApp, aExt, aSetIx, aTru, sLen, sAny, sAll, sSum, sList, sTuple, fI, fC, fB, aSeqI, aRng1, aFor, aFrz, gN, aUnp, aLc, aYes, aCall, aRep, aRgT, turn, wipeA, br_true, br_false, List.map_nil, List.map_cons, List.nil_append, List.cons_append, List.replicate, List.getElem?_cons_zero, List.getElem?_cons_succ, List.set_cons_zero, List.set_cons_succ, List.length_cons, List.length_nil, enS_list, enS_tup, aNotT, aEnum, aRev, aAugD, sLt_int, sLt_ints, sRepT_tup, aCall2, sIsB_eq, sNotB_eq, aDnew, aSortD, ownD_own, aSda, aTupD, datAt_dat, sAllD, aSortSetI, isN_int, notN_int, sIn_int, sNotIn_int, sEq_int, sNe_int, sEq_bool, sNe_bool, sEq_str, aSeq]
            exact ⟨ka, ks⟩
          · have rl : (rest kept pre2 c o).length = pre2.length := by unfold rest; rw [List.length_map]
            simp only [List.length_map, aName_eq, nm_dat, nm_own, dd_dat, dd_own, bb_bool, arg_dat, arg_own, arg_ali, das_nil, das_dat, cont_list, cont_tup, cont_own, cont_ali, contS_own, ownL_own, ownO_own, stor_dat, stor_own, iD_int, ii_int, i1_int, sAddU_int, sAddU_tup, truS_none, truS_bool, truS_int, truS_list, truS_tup, truS_ali, srcOf_list, srcOf_tup, srcOf_ali, Ab.got_some, gZ_nil, gC_cons, gT_tup, onlyDat_dat, notAli_dat, notAli_own, getO_some, fin_none, fin_some, finO_own, callA_nil, callA_dat, callA_ali, argS_none, argS_some, rt_ad, nx_ad, isN_none, isN_tup, notN_none, notN_tup, aNx, aRet, aIf, aSet, aAug, aDrop, aNever, aC, aBin, aBinR, aUn, aTst, aChain, aNot, aAnd, aOr, aIfE, aAndV, aOrV, aNotV, aNil, aCons, aTup, aLst, aCall1, aCallD, aIx, aApp, aExt, aSetIx, aTru, sLen, sAny, sAll, sSum, sList, sTuple, fI, fC, fB, aSeqI, aRng1, aFor, aFrz, gN, aUnp, aLc, aYes, aCall, aRep, aRgT, turn, wipeA, br_true, br_false, List.map_nil, List.map_cons, List.nil_append, List.cons_append, List.replicate, List.getElem?_cons_zero, List.getElem?_cons_succ, List.set_cons_zero, List.set_cons_succ, List.length_cons, List.length_nil, enS_list, enS_tup, aNotT, aEnum, aRev, aAugD, sLt_int, sLt_ints, sRepT_tup, aCall2, sIsB_eq, sNotB_eq, aDnew, aSortD, ownD_own, aSda, aTupD, datAt_dat, sAllD, aSortSetI, isN_int, notN_int, sIn_int, sNotIn_int, sEq_int, sNe_int, sEq_bool, sNe_bool, sEq_str, aSeq]
            refine ⟨small_len (by omega), kn2 _ ⟨some (.dat (eR g)), trivial, ?_⟩⟩
            have e3 : rest kept (pre2 ++ [g]) c o = rest kept pre2 c o ++ [g.filter fun r => !decide (col o r ∈ kept.map (col c))] := by
              unfold rest
              rw [List.map_append]
              rfl
            rw [e3, List.map_append]
            rfl
        · rintro ρ ⟨y11, m11, rfl⟩
          have rl : (rest kept (groupsF b k2) c o).length = (groupsF b k2).length := by unfold rest; rw [List.length_map]
          have rsub : ∀ g ∈ rest kept (groupsF b k2) c o, g.length ≤ 40 := fun g hg => by
            unfold rest at hg
            obtain ⟨g0, h1, rfl⟩ := List.mem_map.mp hg
            exact Nat.le_trans (List.length_filter_le _ _) (groups_ok hB g0 h1).few
          have ht : ((rest kept (groupsF b k2) c o).map fun g => PyData.list (g.map tI)).all PyData.truthy = (rest kept (groupsF b k2) c o).all fun g => !g.isEmpty := by
            rw [List.all_map]
            congr 1
            funext g
            show (!(g.map tI).isEmpty) = _
            rw [emp_map]
          simp only [ht, aName_eq, nm_dat, nm_own, dd_dat, dd_own, bb_bool, arg_dat, arg_own, arg_ali, das_nil, das_dat, cont_list, cont_tup, cont_own, cont_ali, contS_own, ownL_own, ownO_own, stor_dat, stor_own, iD_int, ii_int, i1_int, sAddU_int, sAddU_tup, truS_none, truS_bool, truS_int, truS_list, truS_tup, truS_ali, srcOf_list, srcOf_tup, srcOf_ali, Ab.got_some, gZ_nil, gC_cons, gT_tup, onlyDat_dat, notAli_dat, notAli_own, getO_some, fin_none, fin_some, finO_own, callA_nil, callA_dat, callA_ali, argS_none, argS_some, rt_ad, nx_ad, isN_none, isN_tup, notN_none, notN_tup, aNx, aRet, aIf, aSet, aAug, aDrop, aNever, aC, aBin, aBinR, aUn, aTst, aChain, aNot, aAnd, aOr, aIfE, aAndV, aOrV, aNotV, aNil, aCons, aTup, aLst, aCall1, aCallD, aIx, aApp, aExt, aSetIx, aTru, sLen, sAny, sAll, sSum, sList, sTuple, fI, fC, fB, aSeqI, aRng1, aFor, aFrz, gN, aUnp, aLc, aYes, aCall, aRep, aRgT, turn, wipeA, br_true, br_false, List.map_nil, List.map_cons, List.nil_append, List.cons_append, List.replicate, List.getElem?_cons_zero, List.getElem?_cons_succ, List.set_cons_zero, List.set_cons_succ, List.length_cons, List.length_nil, enS_list, enS_tup, aNotT, aEnum, aRev, aAugD, sLt_int, sLt_ints, sRepT_tup, aCall2, sIsB_eq, sNotB_eq, aDnew, aSortD, ownD_own, aSda, aTupD, datAt_dat, sAllD, aSortSetI, isN_int, notN_int, sIn_int, sNotIn_int, sEq_int, sNe_int, sEq_bool, sNe_bool, sEq_str, aSeq]
          refine ⟨trivial, fun d hd => ?_, fun hh => ?_, fun hh => ?_⟩
          · obtain ⟨g, hg, rfl⟩ := List.mem_map.mp hd
            have := rsub g hg
            show (((g.map tI).length : Nat) : Int) < 2 ^ 63
            rw [List.length_map]
            omega
          · have sub : ∀ g ∈ rest kept (groupsF b k2) c o, 0 < g.length := fun g hg => by
              have z := List.all_eq_true.mp hh g hg
              cases g with
              | nil => cases z
              | cons x y => simp
            refine lc_map (enc := fun g : List Row => PyData.list (g.map tI)) (fun g => tI (g.getD 0 [])) rfl ⟨m11, by simp, trivial⟩ (small_len (by omega)) (fun g hg Ka Ks ka => ?_) ?_
            · have hl := sub g hg
              have ea : atI (g.map tI) 0 = some (tI (g.getD 0 [])) := by
                have z := atI_map tI hl
                rw [getD_mem hl]
                exact z
              simp only [aName_eq, nm_dat, nm_own, dd_dat, dd_own, bb_bool, arg_dat, arg_own, arg_ali, das_nil, das_dat, cont_list, cont_tup, cont_own, cont_ali, contS_own, ownL_own, ownO_own, stor_dat, stor_own, iD_int, ii_int, i1_int, sAddU_int, sAddU_tup, truS_none, truS_bool, truS_int, truS_list, truS_tup, truS_ali, srcOf_list, srcOf_tup, srcOf_ali, Ab.got_some, gZ_nil, gC_cons, gT_tup, onlyDat_dat, notAli_dat, notAli_own, getO_some, fin_none, fin_some, finO_own, callA_nil, callA_dat, callA_ali, argS_none, argS_some, rt_ad, nx_ad, isN_none, isN_tup, notN_none, notN_tup, aNx, aRet, aIf, aSet, aAug, aDrop, aNever, aC, aBin, aBinR, aUn, aTst, aChain, aNot, aAnd, aOr, aIfE, aAndV, aOrV, aNotV, aNil, aCons, aTup, aLst, aCall1, aCallD, aIx, aApp, aExt, aSetIx, aTru, sLen, sAny, sAll, sSum, sList, sTuple, fI, fC, fB, aSeqI, aRng1, aFor, aFrz, gN, aUnp, aLc, aYes, aCall, aRep, aRgT, turn, wipeA, br_true, br_false, List.map_nil, List.map_cons, List.nil_append, List.cons_append, List.replicate, List.getElem?_cons_zero, List.getElem?_cons_succ, List.set_cons_zero, List.set_cons_succ, List.length_cons, List.length_nil, enS_list, enS_tup, aNotT, aEnum, aRev, aAugD, sLt_int, sLt_ints, sRepT_tup, aCall2, sIsB_eq, sNotB_eq, aDnew, aSortD, ownD_own, aSda, aTupD, datAt_dat, sAllD, aSortSetI, isN_int, notN_int, sIn_int, sNotIn_int, sEq_int, sNe_int, sEq_bool, sNe_bool, sEq_str, aSeq]
              rw [ea]
              exact ka
            · refine ⟨small_le (by decide), ?_⟩
              have hf : apartF (groupsF a k1) (groupsF b k2) c o = some (kept, (rest kept (groupsF b k2) c o).map fun g => g.getD 0 []) := by
                unfold apartF
                have hp2 : prodL (groupsF a k1) = countF a k1 := rfl
                rw [hp2, e, find_none hp (by rw [hkept']; exact hh)]
                show some (mendF (groupsF a k1) n, _) = _
                rw [hkept']
              rw [hf] at k
              have e4 : (((rest kept (groupsF b k2) c o).map fun g => g.getD 0 []).map tI) = (rest kept (groupsF b k2) c o).map fun g => tI (g.getD 0 []) := by rw [List.map_map]; rfl
              unfold eApart at k
              simp only [eR, e4] at k
              exact k
          · refine kn _ ⟨fun v hv => (List.mem_append.mp hv).elim (hp v) fun z => by rw [List.mem_singleton.mp z, hkept']; exact hh, some (.dat (.int (n : Int))), some (.dat (eR kept)), some (.own none (.lst ((kept.map (col c)).map PyData.int))), some (.own none (.lst ((rest kept (groupsF b k2) c o).map fun g => .list (g.map tI)))), y11, m11, rfl⟩
    · rintro ρ ⟨hp, x6, x7, x8, x10, x11, n11, rfl⟩
      have hf : apartF (groupsF a k1) (groupsF b k2) c o = none := by
        unfold apartF
        have hp2 : prodL (groupsF a k1) = countF a k1 := rfl
        rw [hp2, List.find?_eq_none.mpr fun q hq => by rw [hp q hq]; simp]
        rfl
      rw [hf] at k
      simp only [aName_eq, nm_dat, nm_own, dd_dat, dd_own, bb_bool, arg_dat, arg_own, arg_ali, das_nil, das_dat, cont_list, cont_tup, cont_own, cont_ali, contS_own, ownL_own, ownO_own, stor_dat, stor_own, iD_int, ii_int, i1_int, sAddU_int, sAddU_tup, truS_none, truS_bool, truS_int, truS_list, truS_tup, truS_ali, srcOf_list, srcOf_tup, srcOf_ali, Ab.got_some, gZ_nil, gC_cons, gT_tup, onlyDat_dat, notAli_dat, notAli_own, getO_some, fin_none, fin_some, finO_own, callA_nil, callA_dat, callA_ali, argS_none, argS_some, rt_ad, nx_ad, isN_none, isN_tup, notN_none, notN_tup, aNx, aRet, aIf, aSet, aAug, aDrop, aNever, aC, aBin, aBinR, aUn, aTst, aChain, aNot, aAnd, aOr, aIfE, aAndV, aOrV, aNotV, aNil, aCons, aTup, aLst, aCall1, aCallD, aIx, aApp, aExt, aSetIx, aTru, sLen, sAny, sAll, sSum, sList, sTuple, fI, fC, fB, aSeqI, aRng1, aFor, aFrz, gN, aUnp, aLc, aYes, aCall, aRep, aRgT, turn, wipeA, br_true, br_false, List.map_nil, List.map_cons, List.nil_append, List.cons_append, List.replicate, List.getElem?_cons_zero, List.getElem?_cons_succ, List.set_cons_zero, List.set_cons_succ, List.length_cons, List.length_nil, enS_list, enS_tup, aNotT, aEnum, aRev, aAugD, sLt_int, sLt_ints, sRepT_tup, aCall2, sIsB_eq, sNotB_eq, aDnew, aSortD, ownD_own, aSda, aTupD, datAt_dat, sAllD, aSortSetI, isN_int, notN_int, sIn_int, sNotIn_int, sEq_int, sNe_int, sEq_bool, sNe_bool, sEq_str, aSeq]
      exact k
theorem ok_takes_apart (D : Defs K mg) : FnOk P w K mg base CX0 3 D.f_takes_apart D.fd_takes_apart ["first", "key", "second", "other_key", "column", "other", "told"] (toSp K sp_takes_apart) := by
  have G_check_two : FnOk P w K mg base CX0 2 D.f_check_two D.fd_check_two ["first", "key", "second", "other_key", "column", "other"] (toSp K sp_check_two) := ok_check_two D
  have G_pairs_of : FnOk P w K mg base CX0 1 D.f_pairs_of D.fd_pairs_of ["first", "second", "column", "other"] (toSp K sp_pairs_of) := ok_pairs_of D
  have G_is_mending : FnOk P w K mg base CX0 2 D.f_is_mending D.fd_is_mending ["rows", "key", "kept"] (toSp K sp_is_mending) := ok_is_mending D
  refine ok_def D.F_takes_apart sc_takes_apart (fun oo ds Kc h => ?_) (fun cdv A outer s H E hr =>
      (ss_cons (s_expr (e_call G_check_two (hr.mono (by decide)) (by rfl) D.g_check_two D.F_check_two.kp D.n_check_two (x_cons (e_name (pv 0)) (x_cons (e_name (pv 1)) (x_cons (e_name (pv 2)) (x_cons (e_name (pv 3)) (x_cons (e_name (pv 4)) (x_cons (e_name (pv 5)) x_nil))))))))
      (ss_cons (s_unp2 (e_name (pv 6)) (g_tup (pg_tup (n := 2) rfl (gs_cons (g_name (pg_name (i := 7) sc_takes_apart.nd rfl (.inl rfl))) (gs_cons (g_name (pg_name (i := 8) sc_takes_apart.nd rfl (.inl rfl))) gs_nil)))))
      (ss_one (s_ret (e_and (e_call G_is_mending (hr.mono (by decide)) (by rfl) D.g_is_mending D.F_is_mending.kp D.n_is_mending (x_cons (e_name (pv 0)) (x_cons (e_name (pv 1)) (x_cons (e_name (pv 7)) x_nil)))) (e_and (e_call G_is_mending (hr.mono (by decide)) (by rfl) D.g_is_mending D.F_is_mending.kp D.n_is_mending (x_cons (e_name (pv 2)) (x_cons (e_name (pv 3)) (x_cons (e_name (pv 8)) x_nil)))) (e_one (e_notT (e_call G_pairs_of (hr.mono (by decide)) (by rfl) D.g_pairs_of D.F_pairs_of.kp D.n_pairs_of (x_cons (e_name (pv 7)) (x_cons (e_name (pv 8)) (x_cons (e_name (pv 4)) (x_cons (e_name (pv 5)) x_nil)))))))))))))) (fun oo ds Kc h => ?_)
  · obtain ⟨w1, w2, a, k1, b, k2, c, o, x, y, rfl, rfl, _⟩ := h
    rfl
  · obtain ⟨w1, w2, a, k1, b, k2, c, o, x, y, rfl, rfl, hA, hB, c0, c1, o0, o1, lx, ly, wx, wy, m1, m2, m3, k⟩ := h
    simp only [aName_eq, nm_dat, nm_own, dd_dat, dd_own, bb_bool, arg_dat, arg_own, arg_ali, das_nil, das_dat, cont_list, cont_tup, cont_own, cont_ali, contS_own, ownL_own, ownO_own, stor_dat, stor_own, iD_int, ii_int, i1_int, sAddU_int, sAddU_tup, truS_none, truS_bool, truS_int, truS_list, truS_tup, truS_ali, srcOf_list, srcOf_tup, srcOf_ali, Ab.got_some, gZ_nil, gC_cons, gT_tup, onlyDat_dat, notAli_dat, notAli_own, getO_some, fin_none, fin_some, finO_own, callA_nil, callA_dat, callA_ali, argS_none, argS_some, rt_ad, nx_ad, isN_none, isN_tup, notN_none, notN_tup, aNx, aRet, aIf, aSet, aAug, aDrop, aNever, aC, aBin, aBinR, aUn, aTst, aChain, aNot, aAnd, aOr, aIfE, aAndV, aOrV, aNotV, aNil, aCons, aTup, aLst, aCall1, aCallD, aIx, aApp, aExt, aSetIx, aTru, sLen, sAny, sAll, sSum, sList, sTuple, fI, fC, fB, aSeqI, aRng1, aFor, aFrz, gN, aUnp, aLc, aYes, aCall, aRep, aRgT, turn, wipeA, br_true, br_false, List.map_nil, List.map_cons, List.nil_append, List.cons_append, List.replicate, List.getElem?_cons_zero, List.getElem?_cons_succ, List.set_cons_zero, List.set_cons_succ, List.length_cons, List.length_nil, enS_list, enS_tup, aNotT, aEnum, aRev, aAugD, sLt_int, sLt_ints, sRepT_tup, aCall2, sIsB_eq, sNotB_eq, aDnew, aSortD, ownD_own, aSda, aTupD, datAt_dat, sAllD, aSortSetI, isN_int, notN_int, sIn_int, sNotIn_int, sEq_int, sNe_int, sEq_bool, sNe_bool, sEq_str, aSeq]
    refine ⟨w1, w2, a, k1, b, k2, c, o, rfl, rfl, hA, hB, c0, c1, o0, o1, rfl, ?_⟩
    simp only [aName_eq, nm_dat, nm_own, dd_dat, dd_own, bb_bool, arg_dat, arg_own, arg_ali, das_nil, das_dat, cont_list, cont_tup, cont_own, cont_ali, contS_own, ownL_own, ownO_own, stor_dat, stor_own, iD_int, ii_int, i1_int, sAddU_int, sAddU_tup, truS_none, truS_bool, truS_int, truS_list, truS_tup, truS_ali, srcOf_list, srcOf_tup, srcOf_ali, Ab.got_some, gZ_nil, gC_cons, gT_tup, onlyDat_dat, notAli_dat, notAli_own, getO_some, fin_none, fin_some, finO_own, callA_nil, callA_dat, callA_ali, argS_none, argS_some, rt_ad, nx_ad, isN_none, isN_tup, notN_none, notN_tup, aNx, aRet, aIf, aSet, aAug, aDrop, aNever, aC, aBin, aBinR, aUn, aTst, aChain, aNot, aAnd, aOr, aIfE, aAndV, aOrV, aNotV, aNil, aCons, aTup, aLst, aCall1, aCallD, aIx, aApp, aExt, aSetIx, aTru, sLen, sAny, sAll, sSum, sList, sTuple, fI, fC, fB, aSeqI, aRng1, aFor, aFrz, gN, aUnp, aLc, aYes, aCall, aRep, aRgT, turn, wipeA, br_true, br_false, List.map_nil, List.map_cons, List.nil_append, List.cons_append, List.replicate, List.getElem?_cons_zero, List.getElem?_cons_succ, List.set_cons_zero, List.set_cons_succ, List.length_cons, List.length_nil, enS_list, enS_tup, aNotT, aEnum, aRev, aAugD, sLt_int, sLt_ints, sRepT_tup, aCall2, sIsB_eq, sNotB_eq, aDnew, aSortD, ownD_own, aSda, aTupD, datAt_dat, sAllD, aSortSetI, isN_int, notN_int, sIn_int, sNotIn_int, sEq_int, sNe_int, sEq_bool, sNe_bool, sEq_str, aSeq]
    refine ⟨trivial, w1, a, k1, x, rfl, rfl, hA, rfl, ?_⟩
    simp only [m1, dd_dat, bb_bool, br_true, notAli_dat]
    refine ⟨w2, b, k2, y, rfl, rfl, hB, rfl, ?_⟩
    simp only [m2, dd_dat, bb_bool, br_true, notAli_dat]
    refine ⟨x, y, c, o, rfl, rfl, lx, ly, c0, o0, fun r hr => by rw [wx r hr]; exact c1, fun r hr => by rw [wy r hr]; exact o1, rfl, ?_⟩
    simp only [m3, aName_eq, nm_dat, nm_own, dd_dat, dd_own, bb_bool, arg_dat, arg_own, arg_ali, das_nil, das_dat, cont_list, cont_tup, cont_own, cont_ali, contS_own, ownL_own, ownO_own, stor_dat, stor_own, iD_int, ii_int, i1_int, sAddU_int, sAddU_tup, truS_none, truS_bool, truS_int, truS_list, truS_tup, truS_ali, srcOf_list, srcOf_tup, srcOf_ali, Ab.got_some, gZ_nil, gC_cons, gT_tup, onlyDat_dat, notAli_dat, notAli_own, getO_some, fin_none, fin_some, finO_own, callA_nil, callA_dat, callA_ali, argS_none, argS_some, rt_ad, nx_ad, isN_none, isN_tup, notN_none, notN_tup, aNx, aRet, aIf, aSet, aAug, aDrop, aNever, aC, aBin, aBinR, aUn, aTst, aChain, aNot, aAnd, aOr, aIfE, aAndV, aOrV, aNotV, aNil, aCons, aTup, aLst, aCall1, aCallD, aIx, aApp, aExt, aSetIx, aTru, sLen, sAny, sAll, sSum, sList, sTuple, fI, fC, fB, aSeqI, aRng1, aFor, aFrz, gN, aUnp, aLc, aYes, aCall, aRep, aRgT, turn, wipeA, br_true, br_false, List.map_nil, List.map_cons, List.nil_append, List.cons_append, List.replicate, List.getElem?_cons_zero, List.getElem?_cons_succ, List.set_cons_zero, List.set_cons_succ, List.length_cons, List.length_nil, enS_list, enS_tup, aNotT, aEnum, aRev, aAugD, sLt_int, sLt_ints, sRepT_tup, aCall2, sIsB_eq, sNotB_eq, aDnew, aSortD, ownD_own, aSda, aTupD, datAt_dat, sAllD, aSortSetI, isN_int, notN_int, sIn_int, sNotIn_int, sEq_int, sNe_int, sEq_bool, sNe_bool, sEq_str, aSeq]
    exact k
theorem ok__law_begin (D : Defs K mg) : FnOk P w K mg base CX0 1 D.f__law_begin D.fd__law_begin ["script"] (toSp K sp__law_begin) := by
  refine ok_def D.F__law_begin sc__law_begin (fun oo ds Kc h => ?_) (fun cdv A outer s H E hr =>
      (ss_cons (s_set (ps_set (i := 1) sc__law_begin.nd rfl (.inl rfl) e_int))
      (ss_cons (s_for PassesOwn.never rfl (i_seq (e_name (pv 0))) (g_name (pg_name (i := 2) sc__law_begin.nd rfl (.inl rfl))) (ss_one (s_set (ps_set (i := 1) sc__law_begin.nd rfl (.inl rfl) (e_op op_modN dr_c (e_op op_addU dr_addU (e_op op_addU dr_addU (e_op op_mul dr_c (e_name (pv 1)) e_int) (e_op op_modN dr_c (e_callTyD call_int1 dr_int (by rfl) D.b_int boot_int (e_name (pv 2))) e_int)) e_int) e_int)))))
      (ss_one (s_ret (e_lst (x_cons (e_callTy call_list_of dc_list (by rfl) D.b_list boot_list (e_name (pv 0))) (x_cons e_int (x_cons e_int (x_cons (e_name (pv 1)) x_nil)))))))))) (fun oo ds Kc h => ?_)
  · obtain ⟨ns, rfl, rfl, _⟩ := h
    rfl
  · obtain ⟨ns, rfl, rfl, hl, k⟩ := h
    simp only [aName_eq, nm_dat, nm_own, dd_dat, dd_own, bb_bool, arg_dat, arg_own, arg_ali, das_nil, das_dat, cont_list, cont_tup, cont_own, cont_ali, contS_own, ownL_own, ownO_own, stor_dat, stor_own, iD_int, ii_int, i1_int, sAddU_int, sAddU_tup, truS_none, truS_bool, truS_int, truS_list, truS_tup, truS_ali, srcOf_list, srcOf_tup, srcOf_ali, Ab.got_some, gZ_nil, gC_cons, gT_tup, onlyDat_dat, notAli_dat, notAli_own, getO_some, fin_none, fin_some, finO_own, callA_nil, callA_dat, callA_ali, argS_none, argS_some, rt_ad, nx_ad, isN_none, isN_tup, notN_none, notN_tup, aNx, aRet, aIf, aSet, aAug, aDrop, aNever, aC, aBin, aBinR, aUn, aTst, aChain, aNot, aAnd, aOr, aIfE, aAndV, aOrV, aNotV, aNil, aCons, aTup, aLst, aCall1, aCallD, aIx, aApp, aExt, aSetIx, aTru, sLen, sAny, sAll, sSum, sList, sTuple, fI, fC, fB, aSeqI, aRng1, aFor, aFrz, gN, aUnp, aLc, aYes, aCall, aRep, aRgT, turn, wipeA, br_true, br_false, List.map_nil, List.map_cons, List.nil_append, List.cons_append, List.replicate, List.getElem?_cons_zero, List.getElem?_cons_succ, List.set_cons_zero, List.set_cons_succ, List.length_cons, List.length_nil, enS_list, enS_tup, aNotT, aEnum, aRev, aAugD, sLt_int, sLt_ints, sRepT_tup, aCall2, sIsB_eq, sNotB_eq, aDnew, aSortD, ownD_own, aSda, aTupD, datAt_dat, sAllD, aSortSetI, isN_int, notN_int, sIn_int, sNotIn_int, sEq_int, sNe_int, sEq_bool, sNe_bool, sEq_str, aSeq]
    refine ⟨trivial, fun _ => trivial, ?_⟩
    refine for_inv (enc := PyData.int) (xs := ns) (fun pre ρ => ∃ (s : Int) (x2 : Option AV), ρ = [some (.dat (.list (ns.map PyData.int))), some (.dat (.int s)), x2]) ⟨_, _, rfl⟩ ?_ ?_
    · rintro pre x post e ρ ⟨s, x2, rfl⟩ Kn kn
      simp only [aName_eq, nm_dat, nm_own, dd_dat, dd_own, bb_bool, arg_dat, arg_own, arg_ali, das_nil, das_dat, cont_list, cont_tup, cont_own, cont_ali, contS_own, ownL_own, ownO_own, stor_dat, stor_own, iD_int, ii_int, i1_int, sAddU_int, sAddU_tup, truS_none, truS_bool, truS_int, truS_list, truS_tup, truS_ali, srcOf_list, srcOf_tup, srcOf_ali, Ab.got_some, gZ_nil, gC_cons, gT_tup, onlyDat_dat, notAli_dat, notAli_own, getO_some, fin_none, fin_some, finO_own, callA_nil, callA_dat, callA_ali, argS_none, argS_some, rt_ad, nx_ad, isN_none, isN_tup, notN_none, notN_tup, aNx, aRet, aIf, aSet, aAug, aDrop, aNever, aC, aBin, aBinR, aUn, aTst, aChain, aNot, aAnd, aOr, aIfE, aAndV, aOrV, aNotV, aNil, aCons, aTup, aLst, aCall1, aCallD, aIx, aApp, aExt, aSetIx, aTru, sLen, sAny, sAll, sSum, sList, sTuple, fI, fC, fB, aSeqI, aRng1, aFor, aFrz, gN, aUnp, aLc, aYes, aCall, aRep, aRgT, turn, wipeA, br_true, br_false, List.map_nil, List.map_cons, List.nil_append, List.cons_append, List.replicate, List.getElem?_cons_zero, List.getElem?_cons_succ, List.set_cons_zero, List.set_cons_succ, List.length_cons, List.length_nil, enS_list, enS_tup, aNotT, aEnum, aRev, aAugD, sLt_int, sLt_ints, sRepT_tup, aCall2, sIsB_eq, sNotB_eq, aDnew, aSortD, ownD_own, aSda, aTupD, datAt_dat, sAllD, aSortSetI, isN_int, notN_int, sIn_int, sNotIn_int, sEq_int, sNe_int, sEq_bool, sNe_bool, sEq_str, aSeq]
      exact ⟨.inr ⟨by decide, by decide⟩, by decide, by decide, kn _ ⟨_, _, rfl⟩⟩
    · rintro ρ ⟨s, x2, rfl⟩
      simp only [aName_eq, nm_dat, nm_own, dd_dat, dd_own, bb_bool, arg_dat, arg_own, arg_ali, das_nil, das_dat, cont_list, cont_tup, cont_own, cont_ali, contS_own, ownL_own, ownO_own, stor_dat, stor_own, iD_int, ii_int, i1_int, sAddU_int, sAddU_tup, truS_none, truS_bool, truS_int, truS_list, truS_tup, truS_ali, srcOf_list, srcOf_tup, srcOf_ali, Ab.got_some, gZ_nil, gC_cons, gT_tup, onlyDat_dat, notAli_dat, notAli_own, getO_some, fin_none, fin_some, finO_own, callA_nil, callA_dat, callA_ali, argS_none, argS_some, rt_ad, nx_ad, isN_none, isN_tup, notN_none, notN_tup, aNx, aRet, aIf, aSet, aAug, aDrop, aNever, aC, aBin, aBinR, aUn, aTst, aChain, aNot, aAnd, aOr, aIfE, aAndV, aOrV, aNotV, aNil, aCons, aTup, aLst, aCall1, aCallD, aIx, aApp, aExt, aSetIx, aTru, sLen, sAny, sAll, sSum, sList, sTuple, fI, fC, fB, aSeqI, aRng1, aFor, aFrz, gN, aUnp, aLc, aYes, aCall, aRep, aRgT, turn, wipeA, br_true, br_false, List.map_nil, List.map_cons, List.nil_append, List.cons_append, List.replicate, List.getElem?_cons_zero, List.getElem?_cons_succ, List.set_cons_zero, List.set_cons_succ, List.length_cons, List.length_nil, enS_list, enS_tup, aNotT, aEnum, aRev, aAugD, sLt_int, sLt_ints, sRepT_tup, aCall2, sIsB_eq, sNotB_eq, aDnew, aSortD, ownD_own, aSda, aTupD, datAt_dat, sAllD, aSortSetI, isN_int, notN_int, sIn_int, sNotIn_int, sEq_int, sNe_int, sEq_bool, sNe_bool, sEq_str, aSeq]
      exact ⟨small_le (by decide), k s⟩
theorem ok__law_take (D : Defs K mg) : FnOk P w K mg base CX0 1 D.f__law_take D.fd__law_take ["d", "many"] (toSp K sp__law_take) := by
  refine ok_def D.F__law_take sc__law_take (fun oo ds Kc h => ?_) (fun cdv A outer s H E hr =>
      (ss_cons (s_if (t_w (w_andC (t_cmp (op_eqP hr.units) dr_eq (e_ix (e_name (pv 0)) e_int) e_int (nomark _)) (w_and1 (t_cmp (op_ltP hr.units) dr_lt (e_ix (e_name (pv 0)) e_int) (e_callB call_len_seq dc_len (by rfl) D.b_len PySem.boot_len (e_ix (e_name (pv 0)) e_int)) (nomark _))))) (ss_cons (let ix := e_int; s_setIx (pv 0) ix (e_callBD call_abs dr_abs (by rfl) D.b_abs boot_abs (e_callTyD call_int1 dr_int (by rfl) D.b_int boot_int (e_ix (e_ix (e_name (pv 0)) e_int) (e_ix (e_name (pv 0)) e_int)))) (pg_sub (pv 0) ix set_list))
      (ss_cons (let ix := e_int; s_setIx (pv 0) ix (e_op op_addU dr_addU (e_ix (e_name (pv 0)) e_int) e_int) (pg_sub (pv 0) ix set_list))
      (ss_one (s_if (t_cmp (op_ltP hr.units) dr_lt (e_ix (e_name (pv 0)) e_int) (e_op op_pow dr_c e_int e_int) (nomark _)) (ss_cons (s_set (ps_set (i := 2) sc__law_take.nd rfl (.inl rfl) (e_callTyD call_int1 dr_int (by rfl) D.b_int boot_int (e_ix (e_name (pv 0)) e_int))))
      (ss_cons (let ix := e_int; s_setIx (pv 0) ix e_int (pg_sub (pv 0) ix set_list))
      (ss_one (s_ret (e_op op_modN dr_c (e_name (pv 2)) (e_name (pv 1))))))) ss_nil)))) ss_nil)
      (ss_cons (s_if (t_cmp op_gt dr_b (e_ix (e_name (pv 0)) e_int) e_int (nomark _)) (ss_cons (s_set (ps_set (i := 3) sc__law_take.nd rfl (.inl rfl) (e_op op_modN dr_c (e_callTyD call_int1 dr_int (by rfl) D.b_int boot_int (e_ix (e_name (pv 0)) e_int)) (e_name (pv 1)))))
      (ss_cons (let ix := e_int; s_setIx (pv 0) ix (e_op op_fdivN dr_c (e_callTyD call_int1 dr_int (by rfl) D.b_int boot_int (e_ix (e_name (pv 0)) e_int)) (e_name (pv 1))) (pg_sub (pv 0) ix set_list))
      (ss_one (s_ret (e_name (pv 3)))))) ss_nil)
      (ss_cons (let ix := e_int; s_setIx (pv 0) ix (e_op op_modN dr_c (e_callTyD call_int1 dr_int (by rfl) D.b_int boot_int (e_op op_addU dr_addU (e_op op_mul dr_c (e_ix (e_name (pv 0)) e_int) e_int) e_int)) e_int) (pg_sub (pv 0) ix set_list))
      (ss_one (s_ret (e_op op_modN dr_c (e_callTyD call_int1 dr_int (by rfl) D.b_int boot_int (e_op op_fdivN dr_c (e_ix (e_name (pv 0)) e_int) e_int)) (e_name (pv 1))))))))) (fun oo ds Kc h => ?_)
  · obtain ⟨ns, t, l, s, many, rfl, rfl, _⟩ := h
    rfl
  · obtain ⟨ns, t, l, s, many, rfl, rfl, hT, h1, h2, k⟩ := h
    simp only [tape, at_0, at_1, at_2, at_3, ix4_1, ix4_2, ix4_3, List.length_map, aName_eq, nm_dat, nm_own, dd_dat, dd_own, bb_bool, arg_dat, arg_own, arg_ali, das_nil, das_dat, cont_list, cont_tup, cont_own, cont_ali, contS_own, ownL_own, ownO_own, stor_dat, stor_own, iD_int, ii_int, i1_int, sAddU_int, sAddU_tup, truS_none, truS_bool, truS_int, truS_list, truS_tup, truS_ali, srcOf_list, srcOf_tup, srcOf_ali, Ab.got_some, gZ_nil, gC_cons, gT_tup, onlyDat_dat, notAli_dat, notAli_own, getO_some, fin_none, fin_some, finO_own, callA_nil, callA_dat, callA_ali, argS_none, argS_some, rt_ad, nx_ad, isN_none, isN_tup, notN_none, notN_tup, aNx, aRet, aIf, aSet, aAug, aDrop, aNever, aC, aBin, aBinR, aUn, aTst, aChain, aNot, aAnd, aOr, aIfE, aAndV, aOrV, aNotV, aNil, aCons, aTup, aLst, aCall1, aCallD, aIx, aApp, aExt, aSetIx, aTru, sLen, sAny, sAll, sSum, sList, sTuple, fI, fC, fB, aSeqI, aRng1, aFor, aFrz, gN, aUnp, aLc, aYes, aCall, aRep, aRgT, turn, wipeA, br_true, br_false, List.map_nil, List.map_cons, List.nil_append, List.cons_append, List.replicate, List.getElem?_cons_zero, List.getElem?_cons_succ, List.set_cons_zero, List.set_cons_succ, List.length_cons, List.length_nil, enS_list, enS_tup, aNotT, aEnum, aRev, aAugD, sLt_int, sLt_ints, sRepT_tup, aCall2, sIsB_eq, sNotB_eq, aDnew, aSortD, ownD_own, aSda, aTupD, datAt_dat, sAllD, aSortSetI, isN_int, notN_int, sIn_int, sNotIn_int, sEq_int, sNe_int, sEq_bool, sNe_bool, sEq_str, aSeq]
    obtain ⟨a1, a2, a3⟩ := hT
    have hm : many ≠ 0 := by omega
    have hd : CDivN l many := ⟨hm, by omega⟩
    have low : ∀ (t : Int), 0 ≤ t → t ≤ ns.length → ∀ l : Int, OkTape ns t 0 s := fun t b1 b2 l => ⟨b1, b2, Int.le_refl _⟩
    refine ⟨fun hl => ⟨fun ht => ?_, fun ht => ⟨fun g => ?_, fun g => ?_⟩⟩, fun hl => ⟨fun g => ?_, fun g => ?_⟩⟩
    · have ht : t < ns.length := of_decide_eq_true ht
      rw [atI_nn a1 ht]
      simp only [at_0, at_1, at_2, at_3, ix4_1, ix4_2, ix4_3, aName_eq, nm_dat, nm_own, dd_dat, dd_own, bb_bool, arg_dat, arg_own, arg_ali, das_nil, das_dat, cont_list, cont_tup, cont_own, cont_ali, contS_own, ownL_own, ownO_own, stor_dat, stor_own, iD_int, ii_int, i1_int, sAddU_int, sAddU_tup, truS_none, truS_bool, truS_int, truS_list, truS_tup, truS_ali, srcOf_list, srcOf_tup, srcOf_ali, Ab.got_some, gZ_nil, gC_cons, gT_tup, onlyDat_dat, notAli_dat, notAli_own, getO_some, fin_none, fin_some, finO_own, callA_nil, callA_dat, callA_ali, argS_none, argS_some, rt_ad, nx_ad, isN_none, isN_tup, notN_none, notN_tup, aNx, aRet, aIf, aSet, aAug, aDrop, aNever, aC, aBin, aBinR, aUn, aTst, aChain, aNot, aAnd, aOr, aIfE, aAndV, aOrV, aNotV, aNil, aCons, aTup, aLst, aCall1, aCallD, aIx, aApp, aExt, aSetIx, aTru, sLen, sAny, sAll, sSum, sList, sTuple, fI, fC, fB, aSeqI, aRng1, aFor, aFrz, gN, aUnp, aLc, aYes, aCall, aRep, aRgT, turn, wipeA, br_true, br_false, List.map_nil, List.map_cons, List.nil_append, List.cons_append, List.replicate, List.getElem?_cons_zero, List.getElem?_cons_succ, List.set_cons_zero, List.set_cons_succ, List.length_cons, List.length_nil, enS_list, enS_tup, aNotT, aEnum, aRev, aAugD, sLt_int, sLt_ints, sRepT_tup, aCall2, sIsB_eq, sNotB_eq, aDnew, aSortD, ownD_own, aSda, aTupD, datAt_dat, sAllD, aSortSetI, isN_int, notN_int, sIn_int, sNotIn_int, sEq_int, sNe_int, sEq_bool, sNe_bool, sEq_str, aSeq]
      generalize hx : (if ns.getD t.toNat 0 < 0 then -ns.getD t.toNat 0 else ns.getD t.toNat 0) = x
      have hx0 : 0 ≤ x := by
        rw [← hx]
        split <;> omega
      have f := fm_rng (a := x) h1
      refine ⟨⟨by decide, by decide, by decide⟩, fun _ => ⟨hm, k _ (t + 1) 0 s f.1 f.2 ⟨by omega, by omega, Int.le_refl _⟩⟩, fun _ => ⟨fun _ => ⟨hm, ⟨hm, by omega⟩, k _ (t + 1) (x.fdiv many) s f.1 f.2 ⟨by omega, by omega, fd_nn hx0 h1⟩⟩, fun _ => ⟨.inr ⟨by decide, by decide⟩, by decide, ⟨by decide, by decide⟩, hm, ?_⟩⟩⟩
      have f := fm_rng (a := ((s * 48271 + 11).fmod 2147483647).fdiv 3) h1
      exact k _ (t + 1) x _ f.1 f.2 ⟨by omega, by omega, hx0⟩
    · have f := fm_rng (a := l) h1
      exact ⟨hm, hd, k _ t (l.fdiv many) s f.1 f.2 ⟨by omega, by omega, fd_nn a3 h1⟩⟩
    · have f := fm_rng (a := ((s * 48271 + 11).fmod 2147483647).fdiv 3) h1
      exact ⟨.inr ⟨by decide, by decide⟩, by decide, ⟨by decide, by decide⟩, hm, k _ t l _ f.1 f.2 ⟨by omega, by omega, a3⟩⟩
    · have f := fm_rng (a := l) h1
      exact ⟨hm, hd, k _ t (l.fdiv many) s f.1 f.2 ⟨by omega, by omega, fd_nn a3 h1⟩⟩
    · have f := fm_rng (a := ((s * 48271 + 11).fmod 2147483647).fdiv 3) h1
      exact ⟨.inr ⟨by decide, by decide⟩, by decide, ⟨by decide, by decide⟩, hm, k _ t l _ f.1 f.2 ⟨by omega, by omega, a3⟩⟩
theorem ok__law_rows (D : Defs K mg) : FnOk P w K mg base CX0 2 D.f__law_rows D.fd__law_rows ["d", "width"] (toSp K sp__law_rows) := by
  have G__law_take : FnOk P w K mg base CX0 1 D.f__law_take D.fd__law_take ["d", "many"] (toSp K sp__law_take) := ok__law_take D
  refine ok_def D.F__law_rows sc__law_rows (fun oo ds Kc h => ?_) (fun cdv A outer s H E hr =>
      (ss_one (s_ret (e_callTy call_tuple_of dc_tuple (by rfl) D.b_tuple boot_tuple (e_sortSet hr.units D.b_sorted D.b_set (e_lc (own := [("j", 3)]) rfl sc__law_rows.nd (i_rng1 (by rfl) D.b_range (e_op op_addU dr_addU e_int (e_call G__law_take (hr.mono (by decide)) (by rfl) D.g__law_take D.F__law_take.kp D.n__law_take (x_cons (e_name (pv 0)) (x_cons e_int x_nil))))) (blkOk_by (by kernel_rfl)) (fun _ _ _ _ _ => (g_name (pg_name (i := 3) sc__law_rows.nd rfl (by first | exact Or.inl rfl | exact Or.inr rfl)))) (fun _ _ _ _ _ => ts_nil) (fun _ _ _ _ _ => (e_callTy call_tuple_of dc_tuple (by rfl) D.b_tuple boot_tuple (e_lc (own := [("k", 2)]) rfl sc__law_rows.nd (i_rng1 (by rfl) D.b_range (e_name (pv 1))) (blkOk_by (by kernel_rfl)) (fun _ _ _ _ _ => (g_name (pg_name (i := 2) sc__law_rows.nd rfl (by first | exact Or.inl rfl | exact Or.inr rfl)))) (fun _ _ _ _ _ => ts_nil) (fun _ _ _ _ _ => (e_call G__law_take (hr.mono (by decide)) (by rfl) D.g__law_take D.F__law_take.kp D.n__law_take (x_cons (e_name (pv 0)) (x_cons e_int x_nil))))))))))))) (fun oo ds Kc h => ?_)
  · obtain ⟨ns, t, l, s, wd, rfl, rfl, _⟩ := h
    rfl
  · obtain ⟨ns, t, l, s, wd, rfl, rfl, hT, h1, h2, k⟩ := h
    simp only [aName_eq, nm_dat, nm_own, dd_dat, dd_own, bb_bool, arg_dat, arg_own, arg_ali, das_nil, das_dat, cont_list, cont_tup, cont_own, cont_ali, contS_own, ownL_own, ownO_own, stor_dat, stor_own, iD_int, ii_int, i1_int, sAddU_int, sAddU_tup, truS_none, truS_bool, truS_int, truS_list, truS_tup, truS_ali, srcOf_list, srcOf_tup, srcOf_ali, Ab.got_some, gZ_nil, gC_cons, gT_tup, onlyDat_dat, notAli_dat, notAli_own, getO_some, fin_none, fin_some, finO_own, callA_nil, callA_dat, callA_ali, argS_none, argS_some, rt_ad, nx_ad, isN_none, isN_tup, notN_none, notN_tup, aNx, aRet, aIf, aSet, aAug, aDrop, aNever, aC, aBin, aBinR, aUn, aTst, aChain, aNot, aAnd, aOr, aIfE, aAndV, aOrV, aNotV, aNil, aCons, aTup, aLst, aCall1, aCallD, aIx, aApp, aExt, aSetIx, aTru, sLen, sAny, sAll, sSum, sList, sTuple, fI, fC, fB, aSeqI, aRng1, aFor, aFrz, gN, aUnp, aLc, aYes, aCall, aRep, aRgT, turn, wipeA, br_true, br_false, List.map_nil, List.map_cons, List.nil_append, List.cons_append, List.replicate, List.getElem?_cons_zero, List.getElem?_cons_succ, List.set_cons_zero, List.set_cons_succ, List.length_cons, List.length_nil, enS_list, enS_tup, aNotT, aEnum, aRev, aAugD, sLt_int, sLt_ints, sRepT_tup, aCall2, sIsB_eq, sNotB_eq, aDnew, aSortD, ownD_own, aSda, aTupD, datAt_dat, sAllD, aSortSetI, isN_int, notN_int, sIn_int, sNotIn_int, sEq_int, sNe_int, sEq_bool, sNe_bool, sEq_str, aSeq]
    unfold aSortSet
    simp only [aName_eq, nm_dat, nm_own, dd_dat, dd_own, bb_bool, arg_dat, arg_own, arg_ali, das_nil, das_dat, cont_list, cont_tup, cont_own, cont_ali, contS_own, ownL_own, ownO_own, stor_dat, stor_own, iD_int, ii_int, i1_int, sAddU_int, sAddU_tup, truS_none, truS_bool, truS_int, truS_list, truS_tup, truS_ali, srcOf_list, srcOf_tup, srcOf_ali, Ab.got_some, gZ_nil, gC_cons, gT_tup, onlyDat_dat, notAli_dat, notAli_own, getO_some, fin_none, fin_some, finO_own, callA_nil, callA_dat, callA_ali, argS_none, argS_some, rt_ad, nx_ad, isN_none, isN_tup, notN_none, notN_tup, aNx, aRet, aIf, aSet, aAug, aDrop, aNever, aC, aBin, aBinR, aUn, aTst, aChain, aNot, aAnd, aOr, aIfE, aAndV, aOrV, aNotV, aNil, aCons, aTup, aLst, aCall1, aCallD, aIx, aApp, aExt, aSetIx, aTru, sLen, sAny, sAll, sSum, sList, sTuple, fI, fC, fB, aSeqI, aRng1, aFor, aFrz, gN, aUnp, aLc, aYes, aCall, aRep, aRgT, turn, wipeA, br_true, br_false, List.map_nil, List.map_cons, List.nil_append, List.cons_append, List.replicate, List.getElem?_cons_zero, List.getElem?_cons_succ, List.set_cons_zero, List.set_cons_succ, List.length_cons, List.length_nil, enS_list, enS_tup, aNotT, aEnum, aRev, aAugD, sLt_int, sLt_ints, sRepT_tup, aCall2, sIsB_eq, sNotB_eq, aDnew, aSortD, ownD_own, aSda, aTupD, datAt_dat, sAllD, aSortSetI, isN_int, notN_int, sIn_int, sNotIn_int, sEq_int, sNe_int, sEq_bool, sNe_bool, sEq_str, aSeq]
    refine ⟨ns, t, l, s, 7, rfl, rfl, hT, by decide, by decide, fun r t' l' s' r0 r1 hT => ?_⟩
    simp only [aName_eq, nm_dat, nm_own, dd_dat, dd_own, bb_bool, arg_dat, arg_own, arg_ali, das_nil, das_dat, cont_list, cont_tup, cont_own, cont_ali, contS_own, ownL_own, ownO_own, stor_dat, stor_own, iD_int, ii_int, i1_int, sAddU_int, sAddU_tup, truS_none, truS_bool, truS_int, truS_list, truS_tup, truS_ali, srcOf_list, srcOf_tup, srcOf_ali, Ab.got_some, gZ_nil, gC_cons, gT_tup, onlyDat_dat, notAli_dat, notAli_own, getO_some, fin_none, fin_some, finO_own, callA_nil, callA_dat, callA_ali, argS_none, argS_some, rt_ad, nx_ad, isN_none, isN_tup, notN_none, notN_tup, aNx, aRet, aIf, aSet, aAug, aDrop, aNever, aC, aBin, aBinR, aUn, aTst, aChain, aNot, aAnd, aOr, aIfE, aAndV, aOrV, aNotV, aNil, aCons, aTup, aLst, aCall1, aCallD, aIx, aApp, aExt, aSetIx, aTru, sLen, sAny, sAll, sSum, sList, sTuple, fI, fC, fB, aSeqI, aRng1, aFor, aFrz, gN, aUnp, aLc, aYes, aCall, aRep, aRgT, turn, wipeA, br_true, br_false, List.map_nil, List.map_cons, List.nil_append, List.cons_append, List.replicate, List.getElem?_cons_zero, List.getElem?_cons_succ, List.set_cons_zero, List.set_cons_succ, List.length_cons, List.length_nil, enS_list, enS_tup, aNotT, aEnum, aRev, aAugD, sLt_int, sLt_ints, sRepT_tup, aCall2, sIsB_eq, sNotB_eq, aDnew, aSortD, ownD_own, aSda, aTupD, datAt_dat, sAllD, aSortSetI, isN_int, notN_int, sIn_int, sNotIn_int, sEq_int, sNe_int, sEq_bool, sNe_bool, sEq_str, aSeq]
    refine ⟨by omega, by omega, ?_⟩
    rw [rangeD0]
    refine lc_inv (enc := fun (q : Nat) => PyData.int (q : Int)) (fun pre acc ρ => ∃ (rows : List Row) (t l s : Int), rows.length = pre.length ∧ (∀ r ∈ rows, r.length = wd ∧ ∀ x ∈ r, 0 ≤ x ∧ x < 3) ∧ acc = rows.map tI ∧ OkTape ns t l s ∧ ρ = [some (.own (some 0) (.lst (tape ns t l s))), some (.dat (.int (wd : Int))), none, none])
      ⟨[], t', l', s', rfl, fun _ z => (nomatch z), rfl, hT, rfl⟩ (small_len (by simp; omega)) (fun pre acc ρ hI => ?_) ?_ ?_
    · obtain ⟨rows, t, l, s, _, _, _, _, rfl⟩ := hI
      exact ⟨trivial, by simp [Ab.freeOf]⟩
    · rintro pre x post e acc ρ ⟨rows, t, l, s, g1, g2, g3, g4, rfl⟩ Ka Ks ka ks
      simp only [aName_eq, nm_dat, nm_own, dd_dat, dd_own, bb_bool, arg_dat, arg_own, arg_ali, das_nil, das_dat, cont_list, cont_tup, cont_own, cont_ali, contS_own, ownL_own, ownO_own, stor_dat, stor_own, iD_int, ii_int, i1_int, sAddU_int, sAddU_tup, truS_none, truS_bool, truS_int, truS_list, truS_tup, truS_ali, srcOf_list, srcOf_tup, srcOf_ali, Ab.got_some, gZ_nil, gC_cons, gT_tup, onlyDat_dat, notAli_dat, notAli_own, getO_some, fin_none, fin_some, finO_own, callA_nil, callA_dat, callA_ali, argS_none, argS_some, rt_ad, nx_ad, isN_none, isN_tup, notN_none, notN_tup, aNx, aRet, aIf, aSet, aAug, aDrop, aNever, aC, aBin, aBinR, aUn, aTst, aChain, aNot, aAnd, aOr, aIfE, aAndV, aOrV, aNotV, aNil, aCons, aTup, aLst, aCall1, aCallD, aIx, aApp, aExt, aSetIx, aTru, sLen, sAny, sAll, sSum, sList, sTuple, fI, fC, fB, aSeqI, aRng1, aFor, aFrz, gN, aUnp, aLc, aYes, aCall, aRep, aRgT, turn, wipeA, br_true, br_false, List.map_nil, List.map_cons, List.nil_append, List.cons_append, List.replicate, List.getElem?_cons_zero, List.getElem?_cons_succ, List.set_cons_zero, List.set_cons_succ, List.length_cons, List.length_nil, enS_list, enS_tup, aNotT, aEnum, aRev, aAugD, sLt_int, sLt_ints, sRepT_tup, aCall2, sIsB_eq, sNotB_eq, aDnew, aSortD, ownD_own, aSda, aTupD, datAt_dat, sAllD, aSortSetI, isN_int, notN_int, sIn_int, sNotIn_int, sEq_int, sNe_int, sEq_bool, sNe_bool, sEq_str, aSeq]
      refine ⟨by omega, by omega, ?_⟩
      rw [rangeD0]
      refine lc_inv (enc := fun (q : Nat) => PyData.int (q : Int)) (fun pre2 acc2 ρ => ∃ (row : Row) (t l s : Int), row.length = pre2.length ∧ (∀ x ∈ row, 0 ≤ x ∧ x < 3) ∧ acc2 = row.map PyData.int ∧ OkTape ns t l s ∧ ρ = [some (.own (some 0) (.lst (tape ns t l s))), some (.dat (.int (wd : Int))), none, some (.dat (.int (x : Int)))])
        ⟨[], t, l, s, rfl, fun _ z => (nomatch z), rfl, g4, rfl⟩ (small_len (by simp; omega)) (fun pre acc ρ hI => ?_) ?_ ?_
      · obtain ⟨rows, t, l, s, _, _, _, _, rfl⟩ := hI
        exact ⟨trivial, by simp [Ab.freeOf]⟩
      · rintro pre2 x2 post2 e2 acc2 ρ ⟨row, t, l, s, j1, j2, j3, j4, rfl⟩ Kb Ks2 kb ks2
        simp only [aName_eq, nm_dat, nm_own, dd_dat, dd_own, bb_bool, arg_dat, arg_own, arg_ali, das_nil, das_dat, cont_list, cont_tup, cont_own, cont_ali, contS_own, ownL_own, ownO_own, stor_dat, stor_own, iD_int, ii_int, i1_int, sAddU_int, sAddU_tup, truS_none, truS_bool, truS_int, truS_list, truS_tup, truS_ali, srcOf_list, srcOf_tup, srcOf_ali, Ab.got_some, gZ_nil, gC_cons, gT_tup, onlyDat_dat, notAli_dat, notAli_own, getO_some, fin_none, fin_some, finO_own, callA_nil, callA_dat, callA_ali, argS_none, argS_some, rt_ad, nx_ad, isN_none, isN_tup, notN_none, notN_tup, aNx, aRet, aIf, aSet, aAug, aDrop, aNever, aC, aBin, aBinR, aUn, aTst, aChain, aNot, aAnd, aOr, aIfE, aAndV, aOrV, aNotV, aNil, aCons, aTup, aLst, aCall1, aCallD, aIx, aApp, aExt, aSetIx, aTru, sLen, sAny, sAll, sSum, sList, sTuple, fI, fC, fB, aSeqI, aRng1, aFor, aFrz, gN, aUnp, aLc, aYes, aCall, aRep, aRgT, turn, wipeA, br_true, br_false, List.map_nil, List.map_cons, List.nil_append, List.cons_append, List.replicate, List.getElem?_cons_zero, List.getElem?_cons_succ, List.set_cons_zero, List.set_cons_succ, List.length_cons, List.length_nil, enS_list, enS_tup, aNotT, aEnum, aRev, aAugD, sLt_int, sLt_ints, sRepT_tup, aCall2, sIsB_eq, sNotB_eq, aDnew, aSortD, ownD_own, aSda, aTupD, datAt_dat, sAllD, aSortSetI, isN_int, notN_int, sIn_int, sNotIn_int, sEq_int, sNe_int, sEq_bool, sNe_bool, sEq_str, aSeq]
        refine ⟨ns, t, l, s, 3, rfl, rfl, j4, by decide, by decide, fun r t' l' s' r0 r1 hT' => ?_⟩
        simp only [aName_eq, nm_dat, nm_own, dd_dat, dd_own, bb_bool, arg_dat, arg_own, arg_ali, das_nil, das_dat, cont_list, cont_tup, cont_own, cont_ali, contS_own, ownL_own, ownO_own, stor_dat, stor_own, iD_int, ii_int, i1_int, sAddU_int, sAddU_tup, truS_none, truS_bool, truS_int, truS_list, truS_tup, truS_ali, srcOf_list, srcOf_tup, srcOf_ali, Ab.got_some, gZ_nil, gC_cons, gT_tup, onlyDat_dat, notAli_dat, notAli_own, getO_some, fin_none, fin_some, finO_own, callA_nil, callA_dat, callA_ali, argS_none, argS_some, rt_ad, nx_ad, isN_none, isN_tup, notN_none, notN_tup, aNx, aRet, aIf, aSet, aAug, aDrop, aNever, aC, aBin, aBinR, aUn, aTst, aChain, aNot, aAnd, aOr, aIfE, aAndV, aOrV, aNotV, aNil, aCons, aTup, aLst, aCall1, aCallD, aIx, aApp, aExt, aSetIx, aTru, sLen, sAny, sAll, sSum, sList, sTuple, fI, fC, fB, aSeqI, aRng1, aFor, aFrz, gN, aUnp, aLc, aYes, aCall, aRep, aRgT, turn, wipeA, br_true, br_false, List.map_nil, List.map_cons, List.nil_append, List.cons_append, List.replicate, List.getElem?_cons_zero, List.getElem?_cons_succ, List.set_cons_zero, List.set_cons_succ, List.length_cons, List.length_nil, enS_list, enS_tup, aNotT, aEnum, aRev, aAugD, sLt_int, sLt_ints, sRepT_tup, aCall2, sIsB_eq, sNotB_eq, aDnew, aSortD, ownD_own, aSda, aTupD, datAt_dat, sAllD, aSortSetI, isN_int, notN_int, sIn_int, sNotIn_int, sEq_int, sNe_int, sEq_bool, sNe_bool, sEq_str, aSeq]
        refine kb _ _ ⟨row ++ [r], t', l', s', by simp [j1], fun q hq => ?_, by rw [j3, List.map_append]; rfl, hT', rfl⟩
        rcases List.mem_append.mp hq with hq | hq
        · exact j2 q hq
        · rw [List.mem_singleton.mp hq]
          exact ⟨r0, r1⟩
      · rintro acc2 ρ ⟨row, t, l, s, j1, j2, rfl, j4, rfl⟩
        rw [List.length_range] at j1
        refine ka _ _ ⟨rows ++ [row], t, l, s, by simp [g1], fun q hq => ?_, by rw [g3, List.map_append]; rfl, j4, rfl⟩
        rcases List.mem_append.mp hq with hq | hq
        · exact g2 q hq
        · rw [List.mem_singleton.mp hq]
          exact ⟨by omega, j2⟩
    · rintro acc ρ ⟨rows, t, l, s, g1, g2, rfl, g4, rfl⟩
      rw [List.length_range] at g1
      simp only [aName_eq, nm_dat, nm_own, dd_dat, dd_own, bb_bool, arg_dat, arg_own, arg_ali, das_nil, das_dat, cont_list, cont_tup, cont_own, cont_ali, contS_own, ownL_own, ownO_own, stor_dat, stor_own, iD_int, ii_int, i1_int, sAddU_int, sAddU_tup, truS_none, truS_bool, truS_int, truS_list, truS_tup, truS_ali, srcOf_list, srcOf_tup, srcOf_ali, Ab.got_some, gZ_nil, gC_cons, gT_tup, onlyDat_dat, notAli_dat, notAli_own, getO_some, fin_none, fin_some, finO_own, callA_nil, callA_dat, callA_ali, argS_none, argS_some, rt_ad, nx_ad, isN_none, isN_tup, notN_none, notN_tup, aNx, aRet, aIf, aSet, aAug, aDrop, aNever, aC, aBin, aBinR, aUn, aTst, aChain, aNot, aAnd, aOr, aIfE, aAndV, aOrV, aNotV, aNil, aCons, aTup, aLst, aCall1, aCallD, aIx, aApp, aExt, aSetIx, aTru, sLen, sAny, sAll, sSum, sList, sTuple, fI, fC, fB, aSeqI, aRng1, aFor, aFrz, gN, aUnp, aLc, aYes, aCall, aRep, aRgT, turn, wipeA, br_true, br_false, List.map_nil, List.map_cons, List.nil_append, List.cons_append, List.replicate, List.getElem?_cons_zero, List.getElem?_cons_succ, List.set_cons_zero, List.set_cons_succ, List.length_cons, List.length_nil, enS_list, enS_tup, aNotT, aEnum, aRev, aAugD, sLt_int, sLt_ints, sRepT_tup, aCall2, sIsB_eq, sNotB_eq, aDnew, aSortD, ownD_own, aSda, aTupD, datAt_dat, sAllD, aSortSetI, isN_int, notN_int, sIn_int, sNotIn_int, sEq_int, sNe_int, sEq_bool, sNe_bool, sEq_str, aSeq]
      refine ⟨rows, rfl, by omega, fun r hr e => ?_, fun rows1 nd me so => ?_⟩
      · have := (g2 r hr).1
        rw [e] at this
        simp at this
        omega
      · refine k rows1 t l s ⟨?_, ?_, fun r hr => (g2 r ((me r).mp hr)).1, ?_, fun r hr => (g2 r ((me r).mp hr)).2⟩ g4
        · obtain ⟨r1, hr1⟩ := List.exists_mem_of_length_pos (l := rows) (by omega)
          exact List.ne_nil_of_mem ((me r1).mpr hr1)
        · have := nd.length_le_of_subset fun x hx => (me x).mp hx
          omega
        · exact srt_lt so nd
end
end K69

set_option maxHeartbeats 4000000
/-! M69d: choices of one row a group; what mending_at numbers. -/
namespace K69
open PySem Ab
/-- one row of each group -/
def Ch : List (List Row) → List Row → Prop
  | [], [] => True
  | g :: gs, x :: m => x ∈ g ∧ Ch gs m
  | _, _ => False
theorem Ch.len : ∀ {gs : List (List Row)} {m : List Row}, Ch gs m → m.length = gs.length
  | [], [], _ => rfl
  | g :: gs, x :: m, h => by rw [List.length_cons, List.length_cons, Ch.len h.2]
theorem Ch.app : ∀ {gs gs2 : List (List Row)} {m m2 : List Row}, Ch gs m → Ch gs2 m2 → Ch (gs ++ gs2) (m ++ m2)
  | [], gs2, [], m2, _, h => h
  | g :: gs, gs2, x :: m, m2, h, h2 => ⟨h.1, Ch.app h.2 h2⟩
theorem Ch.rev : ∀ {gs : List (List Row)} {m : List Row}, Ch gs m → Ch gs.reverse m.reverse
  | [], [], _ => trivial
  | g :: gs, x :: m, h => by
    rw [List.reverse_cons, List.reverse_cons]
    exact Ch.app (Ch.rev h.2) ⟨h.1, trivial⟩
theorem Ch.get : ∀ {gs : List (List Row)} {m : List Row}, Ch gs m → ∀ k, k < gs.length → m.getD k [] ∈ gs.getD k []
  | [], _, _, k, hk => absurd hk (Nat.not_lt_zero k)
  | g :: gs, x :: m, h, 0, _ => h.1
  | g :: gs, x :: m, h, k + 1, hk => by
    have := Ch.get h.2 k (by simpa using hk)
    simpa using this
theorem Ch.isMend {gs : List (List Row)} {m : List Row} (h : Ch gs m) : isMend gs m = true := by
  unfold K69.isMend
  rw [Bool.and_eq_true]
  refine ⟨decide_eq_true h.len, List.all_eq_true.mpr fun k hk => decide_eq_true (h.get k (List.mem_range.mp hk))⟩
theorem Ch.mem : ∀ {gs : List (List Row)} {m : List Row}, Ch gs m → ∀ r ∈ m, ∃ g ∈ gs, r ∈ g
  | [], m, h, r, hr => by
    cases m with
    | nil => cases hr
    | cons _ _ => exact h.elim
  | g :: gs, x :: m, h, r, hr => by
    rcases List.mem_cons.mp hr with rfl | hr
    · exact ⟨g, List.mem_cons_self, h.1⟩
    · obtain ⟨g2, h1, h2⟩ := Ch.mem h.2 r hr
      exact ⟨g2, List.mem_cons_of_mem _ h1, h2⟩
theorem Ch.of : ∀ {gs : List (List Row)} {m : List Row}, Ch gs m → ∀ g ∈ gs, ∃ r ∈ m, r ∈ g
  | [], _, _, _, hg => nomatch hg
  | g :: gs, x :: m, h, g2, hg => by
    rcases List.mem_cons.mp hg with rfl | hg
    · exact ⟨x, List.mem_cons_self, h.1⟩
    · obtain ⟨r, h1, h2⟩ := Ch.of h.2 g2 hg
      exact ⟨r, List.mem_cons_of_mem _ h1, h2⟩
/-- a choice from what holds in each group -/
theorem Ch.make {Q : Row → Prop} : ∀ {gs : List (List Row)}, (∀ g ∈ gs, ∃ r ∈ g, Q r) → ∃ m, Ch gs m ∧ ∀ r ∈ m, Q r
  | [], _ => ⟨[], trivial, fun _ z => nomatch z⟩
  | g :: gs, h => by
    obtain ⟨r, h1, h2⟩ := h g List.mem_cons_self
    obtain ⟨m, m1, m2⟩ := Ch.make (gs := gs) fun g hg => h g (List.mem_cons_of_mem _ hg)
    refine ⟨r :: m, ⟨h1, m1⟩, fun x hx => ?_⟩
    rcases List.mem_cons.mp hx with rfl | hx
    · exact h2
    · exact m2 x hx
def prodR : List (List Row) → Int
  | [] => 1
  | g :: gs => (g.length : Int) * prodR gs
theorem prodL_acc : ∀ (gs : List (List Row)) (n : Int), gs.foldl (fun n g => n * (g.length : Int)) n = n * prodR gs
  | [], n => by simp [prodR]
  | g :: gs, n => by
    rw [List.foldl_cons, prodL_acc gs, prodR, Int.mul_assoc]
theorem prodL_eq (gs : List (List Row)) : prodL gs = prodR gs := by
  unfold prodL
  rw [prodL_acc, Int.one_mul]
theorem prodR_app : ∀ (a b : List (List Row)), prodR (a ++ b) = prodR a * prodR b
  | [], b => by simp [prodR]
  | g :: a, b => by
    show (g.length : Int) * prodR (a ++ b) = (g.length : Int) * prodR a * prodR b
    rw [prodR_app a b, Int.mul_assoc]
theorem prodR_rev : ∀ gs : List (List Row), prodR gs.reverse = prodR gs
  | [] => rfl
  | g :: gs => by
    rw [List.reverse_cons, prodR_app, prodR_rev gs]
    simp [prodR, Int.mul_comm]
theorem prodR_pos : ∀ {gs : List (List Row)}, (∀ g ∈ gs, g ≠ []) → 1 ≤ prodR gs
  | [], _ => Int.le_refl _
  | g :: gs, h => by
    have h1 := List.length_pos_iff.mpr (h g List.mem_cons_self)
    have h2 := prodR_pos (gs := gs) fun g hg => h g (List.mem_cons_of_mem _ hg)
    have h3 : (1 : Int) ≤ (g.length : Int) := by omega
    have := Int.mul_le_mul h3 h2 (by decide) (by omega)
    show 1 ≤ (g.length : Int) * prodR gs
    omega
theorem mendR_ch : ∀ {gs : List (List Row)} (n : Int), (∀ g ∈ gs, g ≠ []) → Ch gs (mendR gs n)
  | [], _, _ => trivial
  | g :: gs, n, h => by
    have hl : 0 < g.length := List.length_pos_iff.mpr (h g List.mem_cons_self)
    have hm := emod_rng (n := n) hl
    refine ⟨?_, mendR_ch (n / (g.length : Int)) fun g hg => h g (List.mem_cons_of_mem _ hg)⟩
    rw [getD_mem (by omega)]
    exact List.getElem_mem _
theorem mendF_ch {gs : List (List Row)} (n : Int) (h : ∀ g ∈ gs, g ≠ []) : Ch gs (mendF gs n) := by
  have := (mendR_ch (gs := gs.reverse) n fun g hg => h g (List.mem_reverse.mp hg)).rev
  rwa [List.reverse_reverse] at this
theorem ch_mendR : ∀ {gs : List (List Row)} {m : List Row}, Ch gs m → ∃ n, 0 ≤ n ∧ n < prodR gs ∧ mendR gs n = m
  | [], [], _ => ⟨0, by decide, by decide, rfl⟩
  | g :: gs, x :: m, h => by
    obtain ⟨q, q0, q1, e⟩ := ch_mendR h.2
    obtain ⟨i, hi, ei⟩ := List.mem_iff_getElem.mp h.1
    have hg : (0 : Int) < (g.length : Int) := by omega
    refine ⟨(i : Int) + q * (g.length : Int), ?_, ?_, ?_⟩
    · have := Int.mul_nonneg q0 (Int.le_of_lt hg)
      omega
    · show _ < (g.length : Int) * prodR gs
      have h1 : (q + 1) * (g.length : Int) ≤ prodR gs * (g.length : Int) := Int.mul_le_mul_of_nonneg_right (by omega) (by omega)
      rw [Int.add_mul, Int.one_mul] at h1
      rw [Int.mul_comm (g.length : Int)]
      omega
    · show g.getD (((i : Int) + q * (g.length : Int)) % (g.length : Int)).toNat [] :: mendR gs (((i : Int) + q * (g.length : Int)) / (g.length : Int)) = _
      have e1 : ((i : Int) + q * (g.length : Int)) % (g.length : Int) = i := by
        rw [Int.add_mul_emod_self_right]
        exact Int.emod_eq_of_lt (by omega) (by omega)
      have e2 : ((i : Int) + q * (g.length : Int)) / (g.length : Int) = q := by
        rw [Int.add_mul_ediv_right _ _ (by omega), Int.ediv_eq_zero_of_lt (by omega) (by omega), Int.zero_add]
      rw [e1, e2, e, Int.toNat_natCast, getD_mem hi, ei]
theorem ch_mendF {gs : List (List Row)} {m : List Row} (h : Ch gs m) : ∃ n, 0 ≤ n ∧ n < prodL gs ∧ mendF gs n = m := by
  obtain ⟨n, h1, h2, h3⟩ := ch_mendR h.rev
  refine ⟨n, h1, by rw [prodL_eq, ← prodR_rev]; exact h2, ?_⟩
  unfold mendF
  rw [h3, List.reverse_reverse]
/-! how many numbers -/
theorem range_mul (b : Nat) : ∀ m : Nat, List.range (m * b) = (List.range m).flatMap fun q => (List.range b).map fun r => q * b + r
  | 0 => by simp
  | m + 1 => by
    rw [Nat.succ_mul, List.range_add, range_mul b m, List.range_succ, List.flatMap_append]
    simp
theorem filter_flatMap_len {α β : Type} (p : β → Bool) (f : α → List β) : ∀ l : List α, ((l.flatMap f).filter p).length = (l.map fun x => ((f x).filter p).length).sum
  | [] => rfl
  | x :: l => by
    rw [List.flatMap_cons, List.filter_append, List.length_append, filter_flatMap_len p f l]
    rfl
theorem sum_const_if (c : Nat) (p : Nat → Bool) : ∀ l : List Nat, (l.map fun q => if p q = true then c else 0).sum = c * (l.filter p).length
  | [] => by simp
  | q :: l => by
    rw [List.map_cons, List.sum_cons, sum_const_if c p l]
    cases h : p q with
    | true =>
      rw [List.filter_cons_of_pos h, List.length_cons, Nat.mul_succ]
      simp
      omega
    | false =>
      rw [List.filter_cons_of_neg (by simp [h])]
      simp
theorem range_filter_get (g : List Row) (p : Row → Bool) : ((List.range g.length).filter fun r => p (g.getD r [])).length = (g.filter p).length := by
  have e : g.filter p = ((List.range g.length).filter fun r => p (g.getD r [])).map fun r => g.getD r [] := by
    have e0 : (List.range g.length).map (fun r => g.getD r []) = g := by
      refine List.ext_getElem (by simp) fun i h1 h2 => ?_
      rw [List.getElem_map, List.getElem_range, getD_mem h2]
    have : (((List.range g.length).map fun r => g.getD r []).filter p) = g.filter p := by rw [e0]
    rw [← this, List.filter_map]
    rfl
  rw [e, List.length_map]
def prodN : List (List Row) → Nat
  | [] => 1
  | g :: gs => prodN gs * g.length
def cntN (p : Row → Bool) : List (List Row) → Nat
  | [] => 1
  | g :: gs => (g.filter p).length * cntN p gs
theorem prodN_eq : ∀ gs : List (List Row), (prodN gs : Int) = prodR gs
  | [] => rfl
  | g :: gs => by
    show ((prodN gs * g.length : Nat) : Int) = (g.length : Int) * prodR gs
    rw [Int.natCast_mul, prodN_eq gs, Int.mul_comm]
/-- how many of the numbers choose by p alone -/
theorem count_all (p : Row → Bool) : ∀ {gs : List (List Row)}, (∀ g ∈ gs, g ≠ []) → ((List.range (prodN gs)).filter fun n => (mendR gs (n : Nat)).all p).length = cntN p gs
  | [], _ => rfl
  | g :: gs, h => by
    have ih := count_all p (gs := gs) fun g hg => h g (List.mem_cons_of_mem _ hg)
    have hg : 0 < g.length := List.length_pos_iff.mpr (h g List.mem_cons_self)
    show ((List.range (prodN gs * g.length)).filter _).length = (g.filter p).length * cntN p gs
    rw [range_mul, filter_flatMap_len, ← ih, ← sum_const_if]
    congr 1
    refine List.map_congr_left fun q _ => ?_
    rw [List.filter_map, List.length_map]
    have e : ∀ r ∈ List.range g.length, ((fun n : Nat => (mendR (g :: gs) (n : Nat)).all p) ∘ fun r => q * g.length + r) r = (p (g.getD r []) && (mendR gs (q : Nat)).all p) := fun r hr => by
      have hr := List.mem_range.mp hr
      show (g.getD ((((q * g.length + r : Nat) : Int)) % (g.length : Int)).toNat [] :: mendR gs (((q * g.length + r : Nat) : Int) / (g.length : Int))).all p = _
      have c : (((q * g.length + r : Nat) : Int)) = (r : Int) + (q : Int) * (g.length : Int) := by
        rw [Int.natCast_add, Int.natCast_mul]
        omega
      have e1 : ((r : Int) + (q : Int) * (g.length : Int)) % (g.length : Int) = r := by
        rw [Int.add_mul_emod_self_right]
        exact Int.emod_eq_of_lt (by omega) (by omega)
      have e2 : ((r : Int) + (q : Int) * (g.length : Int)) / (g.length : Int) = q := by
        rw [Int.add_mul_ediv_right _ _ (by omega), Int.ediv_eq_zero_of_lt (by omega) (by omega), Int.zero_add]
      rw [c, e1, e2, Int.toNat_natCast, List.all_cons]
    rw [List.filter_congr e]
    cases z : (mendR gs (q : Nat)).all p with
    | true =>
      simp only [Bool.and_true, if_true]
      exact range_filter_get g p
    | false =>
      simp
end K69

set_option maxHeartbeats 4000000
/-! M69e: the law's facts about one table. -/
namespace K69
open PySem Ab
theorem cntN_app (p : Row → Bool) : ∀ a b : List (List Row), cntN p (a ++ b) = cntN p a * cntN p b
  | [], b => by simp [cntN]
  | g :: a, b => by
    show (g.filter p).length * cntN p (a ++ b) = (g.filter p).length * cntN p a * cntN p b
    rw [cntN_app p a b, Nat.mul_assoc]
theorem cntN_rev (p : Row → Bool) : ∀ gs : List (List Row), cntN p gs.reverse = cntN p gs
  | [] => rfl
  | g :: gs => by
    rw [List.reverse_cons, cntN_app, cntN_rev p gs]
    simp [cntN, Nat.mul_comm]
theorem without_acc (q : Ques) : ∀ (gs : List (List Row)) (n : Int), gs.foldl (fun n g => n * ((left q g).length : Int)) n = n * (cntN (fun r => !fitsF q r) gs : Int)
  | [], n => by simp [cntN]
  | g :: gs, n => by
    rw [List.foldl_cons, without_acc q gs, Int.mul_assoc]
    have e : ((cntN (fun r => !fitsF q r) (g :: gs) : Nat) : Int) = ((left q g).length : Int) * (cntN (fun r => !fitsF q r) gs : Int) := by
      show ((((g.filter fun r => !fitsF q r).length * cntN (fun r => !fitsF q r) gs : Nat)) : Int) = _
      exact Int.natCast_mul _ _
    rw [e]
theorem without_eq (q : Ques) (gs : List (List Row)) : without q gs = (cntN (fun r => !fitsF q r) gs : Int) := by
  unfold without
  rw [without_acc, Int.one_mul]
theorem prodN_rev (gs : List (List Row)) : (prodN gs.reverse : Int) = prodL gs := by
  rw [prodN_eq, prodR_rev, prodL_eq]
/-- the numbers whose mending has a row that fits -/
theorem hit_count {q : Ques} {gs : List (List Row)} (h : ∀ g ∈ gs, g ≠ []) : (((List.range (prodL gs).toNat).filter fun n => (mendF gs (n : Nat)).any (fitsF q)).length : Int) = prodL gs - without q gs := by
  have e : (prodL gs).toNat = prodN gs.reverse := by
    rw [← prodN_rev]
    exact Int.toNat_natCast _
  have c := count_all (fun r => !fitsF q r) (gs := gs.reverse) fun g hg => h g (List.mem_reverse.mp hg)
  rw [cntN_rev] at c
  have sp : ∀ (l : List Nat) (p : Nat → Bool), (l.filter p).length + (l.filter fun n => !p n).length = l.length := fun l p => by
    induction l with
    | nil => rfl
    | cons x l ih =>
      cases z : p x with
      | true =>
        rw [List.filter_cons_of_pos z, List.filter_cons_of_neg (by simp [z]), List.length_cons, List.length_cons]
        omega
      | false =>
        rw [List.filter_cons_of_neg (by simp [z]), List.filter_cons_of_pos (by simp [z]), List.length_cons, List.length_cons]
        omega
  have s := sp (List.range (prodN gs.reverse)) fun n => (mendF gs (n : Nat)).any (fitsF q)
  have e2 : ((List.range (prodN gs.reverse)).filter fun n => !(mendF gs (n : Nat)).any (fitsF q)) = (List.range (prodN gs.reverse)).filter fun n => (mendR gs.reverse (n : Nat)).all fun r => !fitsF q r := by
    refine List.filter_congr fun n _ => ?_
    show (!(mendR gs.reverse (n : Nat)).reverse.any (fitsF q)) = _
    rw [List.any_reverse, List.not_any_eq_all_not]
  rw [e2, c, List.length_range] at s
  have g2 := prodN_rev gs
  rw [e, without_eq]
  omega
theorem left_nil {q : Ques} {g : List Row} : (left q g).isEmpty = g.all (fitsF q) := by
  rw [Bool.eq_iff_iff, List.isEmpty_iff, List.all_eq_true]
  unfold left
  rw [List.filter_eq_nil_iff]
  refine forall_congr' fun r => imp_congr_right fun _ => ?_
  simp
theorem cntN_zero {p : Row → Bool} : ∀ {gs : List (List Row)}, cntN p gs = 0 ↔ ∃ g ∈ gs, (g.filter p).length = 0
  | [] => by simp [cntN]
  | g :: gs => by
    show (g.filter p).length * cntN p gs = 0 ↔ _
    rw [Nat.mul_eq_zero, cntN_zero]
    simp
/-- nothing is left of a group just if all mendings fit -/
theorem without_zero {q : Ques} {gs : List (List Row)} : without q gs = 0 ↔ gs.any (fun g => (left q g).isEmpty) = true := by
  rw [without_eq, List.any_eq_true]
  have e : ((cntN (fun r => !fitsF q r) gs : Nat) : Int) = 0 ↔ cntN (fun r => !fitsF q r) gs = 0 := by omega
  rw [e, cntN_zero]
  refine exists_congr fun g => and_congr_right fun _ => ?_
  rw [List.isEmpty_iff]
  exact List.length_eq_zero_iff
theorem nAll_pos {q : Ques} {gs : List (List Row)} : (0 < nAll q gs) ↔ gs.any (fun g => (left q g).isEmpty) = true := by
  unfold nAll
  rw [List.any_eq_true]
  constructor
  · intro h
    obtain ⟨g, hg⟩ := List.exists_mem_of_length_pos h
    obtain ⟨h1, h2⟩ := List.mem_filter.mp hg
    exact ⟨g, h1, by rw [left_nil]; exact h2⟩
  · rintro ⟨g, h1, h2⟩
    exact List.length_pos_of_mem (List.mem_filter.mpr ⟨h1, by rw [← left_nil]; exact h2⟩)
theorem nAny_pos {q : Ques} {gs : List (List Row)} (h : ∀ g ∈ gs, g ≠ []) : (0 < nAny q gs) ↔ 0 < prodL gs - without q gs := by
  rw [← hit_count (q := q) h]
  unfold nAny
  constructor
  · intro hp
    obtain ⟨g, hg⟩ := List.exists_mem_of_length_pos hp
    obtain ⟨h1, h2⟩ := List.mem_filter.mp hg
    obtain ⟨r, hr, hf⟩ := List.any_eq_true.mp h2
    have : ∃ m, Ch gs m ∧ r ∈ m := by
      have go : ∀ gs : List (List Row), (∀ g ∈ gs, g ≠ []) → g ∈ gs → ∃ m, Ch gs m ∧ r ∈ m := fun gs => by
        induction gs with
        | nil => intro _ z; cases z
        | cons g2 gs ih =>
          intro hne hm
          have hne2 : ∀ g ∈ gs, g ≠ [] := fun g hg => hne g (List.mem_cons_of_mem _ hg)
          rcases List.mem_cons.mp hm with rfl | hm
          · obtain ⟨m, m1, _⟩ := Ch.make (Q := fun _ => True) (gs := gs) fun g hg => by
              obtain ⟨x, hx⟩ := List.exists_mem_of_ne_nil g (hne2 g hg)
              exact ⟨x, hx, trivial⟩
            exact ⟨r :: m, ⟨hr, m1⟩, List.mem_cons_self⟩
          · obtain ⟨m, m1, m2⟩ := ih hne2 hm
            obtain ⟨x, hx⟩ := List.exists_mem_of_ne_nil g2 (hne g2 List.mem_cons_self)
            exact ⟨x :: m, ⟨hx, m1⟩, List.mem_cons_of_mem _ m2⟩
      exact go gs h h1
    obtain ⟨m, hm, hrm⟩ := this
    obtain ⟨n, n0, n1, e⟩ := ch_mendF hm
    have : n.toNat ∈ (List.range (prodL gs).toNat).filter fun n => (mendF gs (n : Nat)).any (fitsF q) := by
      rw [List.mem_filter, List.mem_range]
      refine ⟨by omega, ?_⟩
      rw [Int.toNat_of_nonneg n0, e]
      exact List.any_eq_true.mpr ⟨r, hrm, hf⟩
    have := List.length_pos_of_mem this
    omega
  · intro hp
    obtain ⟨n, hn⟩ := List.exists_mem_of_length_pos (by omega : 0 < ((List.range (prodL gs).toNat).filter fun n => (mendF gs (n : Nat)).any (fitsF q)).length)
    obtain ⟨_, h2⟩ := List.mem_filter.mp hn
    obtain ⟨r, hr, hf⟩ := List.any_eq_true.mp h2
    obtain ⟨g, g1, g2⟩ := (mendF_ch (gs := gs) (n : Nat) h).mem r hr
    exact List.length_pos_of_mem (List.mem_filter.mpr ⟨g1, List.any_eq_true.mpr ⟨r, g2, hf⟩⟩)
/-! totals -/
theorem ch_ge {c : Int} : ∀ {gs : List (List Row)} {m : List Row}, Ch gs m → (gs.map (minC c)).sum ≤ (m.map (col c)).sum ∧ (m.map (col c)).sum ≤ (gs.map (maxC c)).sum
  | [], [], _ => ⟨Int.le_refl _, Int.le_refl _⟩
  | g :: gs, x :: m, h => by
    obtain ⟨i1, i2⟩ := ch_ge (c := c) h.2
    have hx : minC c g ≤ col c x ∧ col c x ≤ maxC c g := by
      cases g with
      | nil => exact nomatch h.1
      | cons r g =>
        have lo : ∀ (l : List Int) (a : Int), l.foldl min a ≤ a ∧ ∀ y ∈ l, l.foldl min a ≤ y := fun l => by
          induction l with
          | nil => intro a; exact ⟨Int.le_refl _, fun _ z => nomatch z⟩
          | cons y l ih =>
            intro a
            obtain ⟨j1, j2⟩ := ih (min a y)
            rw [List.foldl_cons]
            refine ⟨by omega, fun z hz => ?_⟩
            rcases List.mem_cons.mp hz with rfl | hz
            · omega
            · exact j2 z hz
        have hi : ∀ (l : List Int) (a : Int), a ≤ l.foldl max a ∧ ∀ y ∈ l, y ≤ l.foldl max a := fun l => by
          induction l with
          | nil => intro a; exact ⟨Int.le_refl _, fun _ z => nomatch z⟩
          | cons y l ih =>
            intro a
            obtain ⟨j1, j2⟩ := ih (max a y)
            rw [List.foldl_cons]
            refine ⟨by omega, fun z hz => ?_⟩
            rcases List.mem_cons.mp hz with rfl | hz
            · omega
            · exact j2 z hz
        obtain ⟨l1, l2⟩ := lo (g.map (col c)) (col c r)
        obtain ⟨u1, u2⟩ := hi (g.map (col c)) (col c r)
        rcases List.mem_cons.mp h.1 with rfl | hx
        · exact ⟨l1, u1⟩
        · exact ⟨l2 _ (List.mem_map.mpr ⟨x, hx, rfl⟩), u2 _ (List.mem_map.mpr ⟨x, hx, rfl⟩)⟩
    rw [List.map_cons, List.map_cons, List.map_cons, List.sum_cons, List.sum_cons, List.sum_cons]
    omega
end K69

set_option maxHeartbeats 4000000
/-! M69f: more of the law's facts about one table. -/
namespace K69
open PySem Ab
open PySem.W (dataLt)
theorem sum_add' {α : Type} (f g : α → Nat) : ∀ l : List α, (l.map fun x => f x + g x).sum = (l.map f).sum + (l.map g).sum
  | [] => rfl
  | x :: l => by
    simp only [List.map_cons, List.sum_cons, sum_add' f g l]
    omega
theorem sum_one {k : Row} : ∀ {ks : List Row}, ks.Nodup → k ∈ ks → (ks.map fun x => if k = x then 1 else 0).sum = 1
  | x :: ks, nd, h => by
    rw [List.nodup_cons] at nd
    rw [List.map_cons, List.sum_cons]
    by_cases e : k = x
    · subst e
      have z : ∀ l : List Row, k ∉ l → (l.map fun x => if k = x then 1 else 0).sum = 0 := fun l => by
        induction l with
        | nil => intro _; rfl
        | cons y l ih =>
          intro hn
          rw [List.map_cons, List.sum_cons, ih fun h => hn (List.mem_cons_of_mem _ h), if_neg fun e => hn (by rw [e]; exact List.mem_cons_self)]
      rw [z ks nd.1]
      simp
    · rw [sum_one nd.2 ((List.mem_cons.mp h).resolve_left e), if_neg e]
theorem sum_parts (f : Row → Row) (ks : List Row) (nd : ks.Nodup) : ∀ rows : List Row, (∀ r ∈ rows, f r ∈ ks) → (ks.map fun k => (rows.filter fun r => decide (f r = k)).length).sum = rows.length
  | [], _ => by
    have : ∀ l : List Row, (l.map fun _ => 0).sum = 0 := fun l => by
      induction l with
      | nil => rfl
      | cons _ _ ih => rw [List.map_cons, List.sum_cons, ih]
    exact this ks
  | r :: rows, h => by
    have ih := sum_parts f ks nd rows fun x hx => h x (List.mem_cons_of_mem _ hx)
    have e : ∀ k ∈ ks, ((r :: rows).filter fun r => decide (f r = k)).length = (if f r = k then 1 else 0) + (rows.filter fun r => decide (f r = k)).length := fun k _ => by
      by_cases z : f r = k
      · rw [List.filter_cons_of_pos (by simp [z]), if_pos z, List.length_cons]
        omega
      · rw [List.filter_cons_of_neg (by simp [z]), if_neg z]
        omega
    rw [List.map_congr_left e, sum_add', ih, sum_one nd (h r List.mem_cons_self), List.length_cons]
    omega
theorem sum_groups (rows : List Row) (key : Row) : ((groupsF rows key).map List.length).sum = rows.length := by
  unfold groupsF
  rw [List.map_map]
  exact sum_parts (kf key) (gk rows key) (gk_nodup rows key) rows fun r hr => gk_mem.mpr ⟨r, hr, rfl⟩
theorem sum_cast : ∀ l : List Nat, (l.map fun (n : Nat) => (n : Int)).sum = ((l.sum : Nat) : Int)
  | [] => rfl
  | n :: l => by
    rw [List.map_cons, List.sum_cons, List.sum_cons, sum_cast l]
    omega
/-! the first two mendings -/
theorem mendR_01 : ∀ {gs : List (List Row)}, (∀ g ∈ gs, g ≠ [] ∧ g.Pairwise (· < ·)) → 1 < prodR gs → ∃ p1 p2 x y s, mendR gs 0 = p1 ++ x :: s ∧ mendR gs 1 = p2 ++ y :: s ∧ x < y
  | [], _, h => absurd h (by decide)
  | g :: gs, hg, h => by
    obtain ⟨hne, hasc⟩ := hg g List.mem_cons_self
    have hl : 0 < g.length := List.length_pos_iff.mpr hne
    have e0 : mendR (g :: gs) 0 = g.getD 0 [] :: mendR gs 0 := by
      show g.getD ((0 : Int) % (g.length : Int)).toNat [] :: mendR gs ((0 : Int) / (g.length : Int)) = _
      rw [Int.zero_emod, Int.zero_ediv]
      rfl
    by_cases h1 : g.length = 1
    · have e1 : mendR (g :: gs) 1 = g.getD 0 [] :: mendR gs 1 := by
        show g.getD ((1 : Int) % (g.length : Int)).toNat [] :: mendR gs ((1 : Int) / (g.length : Int)) = _
        rw [h1]
        rfl
      have hp : 1 < prodR gs := by
        have : prodR (g :: gs) = (g.length : Int) * prodR gs := rfl
        rw [this, h1] at h
        omega
      obtain ⟨p1, p2, x, y, s, a1, a2, a3⟩ := mendR_01 (fun g hg' => hg g (List.mem_cons_of_mem _ hg')) hp
      exact ⟨_ :: p1, _ :: p2, x, y, s, by rw [e0, a1]; rfl, by rw [e1, a2]; rfl, a3⟩
    · have e1 : mendR (g :: gs) 1 = g.getD 1 [] :: mendR gs 0 := by
        show g.getD ((1 : Int) % (g.length : Int)).toNat [] :: mendR gs ((1 : Int) / (g.length : Int)) = _
        rw [Int.emod_eq_of_lt (by decide) (by omega), Int.ediv_eq_zero_of_lt (by decide) (by omega)]
        rfl
      refine ⟨[], [], g.getD 0 [], g.getD 1 [], mendR gs 0, e0, e1, ?_⟩
      rw [getD_mem (by omega : 0 < g.length), getD_mem (by omega : 1 < g.length)]
      exact List.pairwise_iff_getElem.mp hasc 0 1 (by omega) (by omega) (by decide)
theorem lt_common : ∀ (s : List Row) {x y : Row} {a b : List Row}, x < y → PyProof.Rows.lexLt PyProof.Rows.itemOrd (PySem.W.keyToksAll ((s ++ x :: a).map tI)) (PySem.W.keyToksAll ((s ++ y :: b).map tI)) = true
  | [], x, y, a, b, h => by
    have e : PyData.eqv (tI x) (tI y) = decide (x = y) := faith_tup faith_int x y
    have ne : ¬ x = y := fun z => List.lt_irrefl y (by rw [z] at h; exact h)
    show PyProof.Rows.lexLt PyProof.Rows.itemOrd (PySem.W.keyToksAll (tI x :: a.map tI)) (PySem.W.keyToksAll (tI y :: b.map tI)) = true
    rw [PySem.W.dataLt_cons (alike_tI x y), if_neg (by rw [e]; simpa using ne), tI_lt]
    exact decide_eq_true h
  | c :: s, x, y, a, b, h => by
    have e : PyData.eqv (tI c) (tI c) = decide (c = c) := faith_tup faith_int c c
    show PyProof.Rows.lexLt PyProof.Rows.itemOrd (PySem.W.keyToksAll (tI c :: (s ++ x :: a).map tI)) (PySem.W.keyToksAll (tI c :: (s ++ y :: b).map tI)) = true
    rw [PySem.W.dataLt_cons (alike_tI c c), if_pos (by rw [e]; simp)]
    exact lt_common s h
theorem alikeAll_tI : ∀ (a b : List Row), PySem.W.alikeAll (a.map tI) (b.map tI) = true
  | [], b => by cases b <;> simp [PySem.W.alikeAll]
  | x :: a, [] => by simp [PySem.W.alikeAll]
  | x :: a, y :: b => by
    simp only [List.map_cons, PySem.W.alikeAll, alike_tI, alikeAll_tI a b, Bool.and_self]
theorem depth_eR (rows : List Row) : (eR rows).depth ≤ 2 := depth_tup (fun b => Nat.le_of_eq (depth_tI b)) rows
theorem sLt_mend {gs : List (List Row)} (hg : ∀ g ∈ gs, g ≠ [] ∧ g.Pairwise (· < ·)) (h : 1 < prodL gs) {k : PyData → Prop} (hk : k (.bool true)) : sLt (eR (mendF gs 0)) (eR (mendF gs 1)) k := by
  refine ⟨?_, (fun z => nomatch z), Nat.le_trans (Nat.min_le_left _ _) (Nat.le_trans (depth_eR _) (by decide)), ?_⟩
  · show PySem.W.alike (.tuple _) (.tuple _) = true
    simp only [PySem.W.alike]
    exact alikeAll_tI _ _
  · obtain ⟨p1, p2, x, y, s, a1, a2, a3⟩ := mendR_01 (gs := gs.reverse) (fun g hg' => hg g (List.mem_reverse.mp hg')) (by rw [prodR_rev, ← prodL_eq]; exact h)
    have e : dataLt (eR (mendF gs 0)) (eR (mendF gs 1)) = true := by
      show dataLt (.tuple _) (.tuple _) = true
      rw [PySem.W.dataLt_tuple]
      unfold mendF
      rw [a1, a2, List.reverse_append, List.reverse_append, List.reverse_cons, List.reverse_cons, List.append_assoc, List.append_assoc]
      exact lt_common s.reverse a3
    rw [e]
    exact hk
/-! nothing asked -/
theorem fits_none {n : Nat} {r : Row} : fitsF (List.replicate n none) r = true := by
  unfold fitsF
  rw [List.all_eq_true]
  rintro ⟨i, w⟩ h
  obtain ⟨_, h2⟩ := enumL_mem h
  have h2 : (List.replicate n (none : Option Int))[i - 0]? = some w := h2
  rw [List.getElem?_replicate] at h2
  split at h2
  · cases h2
    rfl
  · cases h2
theorem left_none {n : Nat} (g : List Row) : left (List.replicate n none) g = [] := by
  unfold left
  rw [List.filter_eq_nil_iff]
  intro r _
  rw [fits_none]
  simp
theorem none_counts {n : Nat} {gs : List (List Row)} (hne : ∀ g ∈ gs, g ≠ []) : nAll (List.replicate n none) gs = gs.length ∧ nAny (List.replicate n none) gs = gs.length := by
  unfold nAll nAny
  refine ⟨?_, ?_⟩
  · rw [List.filter_eq_self.mpr fun g _ => List.all_eq_true.mpr fun r _ => fits_none]
  · rw [List.filter_eq_self.mpr fun g hg => ?_]
    obtain ⟨r, hr⟩ := List.exists_mem_of_ne_nil g (hne g hg)
    exact List.any_eq_true.mpr ⟨r, hr, fits_none⟩
theorem none_without {n : Nat} {gs : List (List Row)} (h : gs ≠ []) : without (List.replicate n none) gs = 0 := by
  rw [without_zero, List.any_eq_true]
  obtain ⟨g, hg⟩ := List.exists_mem_of_ne_nil gs h
  exact ⟨g, hg, by rw [left_none]; rfl⟩
/-! totals that are reached -/
theorem fold_min_mem : ∀ (l : List Int) (a : Int), l.foldl min a = a ∨ l.foldl min a ∈ l
  | [], a => .inl rfl
  | y :: l, a => by
    rw [List.foldl_cons]
    rcases fold_min_mem l (min a y) with h | h
    · rw [h]
      by_cases e : a ≤ y
      · exact .inl (by omega)
      · exact .inr (by rw [show min a y = y by omega]; exact List.mem_cons_self)
    · exact .inr (List.mem_cons_of_mem _ h)
theorem fold_max_mem : ∀ (l : List Int) (a : Int), l.foldl max a = a ∨ l.foldl max a ∈ l
  | [], a => .inl rfl
  | y :: l, a => by
    rw [List.foldl_cons]
    rcases fold_max_mem l (max a y) with h | h
    · rw [h]
      by_cases e : y ≤ a
      · exact .inl (by omega)
      · exact .inr (by rw [show max a y = y by omega]; exact List.mem_cons_self)
    · exact .inr (List.mem_cons_of_mem _ h)
theorem minC_mem {c : Int} {g : List Row} (h : g ≠ []) : ∃ r ∈ g, col c r = minC c g := by
  cases g with
  | nil => exact absurd rfl h
  | cons r g =>
    rcases fold_min_mem (g.map (col c)) (col c r) with e | e
    · exact ⟨r, List.mem_cons_self, e.symm⟩
    · obtain ⟨x, hx, ex⟩ := List.mem_map.mp e
      exact ⟨x, List.mem_cons_of_mem _ hx, ex⟩
theorem maxC_mem {c : Int} {g : List Row} (h : g ≠ []) : ∃ r ∈ g, col c r = maxC c g := by
  cases g with
  | nil => exact absurd rfl h
  | cons r g =>
    rcases fold_max_mem (g.map (col c)) (col c r) with e | e
    · exact ⟨r, List.mem_cons_self, e.symm⟩
    · obtain ⟨x, hx, ex⟩ := List.mem_map.mp e
      exact ⟨x, List.mem_cons_of_mem _ hx, ex⟩
theorem ch_sum {c : Int} {f : List Row → Int} : ∀ {gs : List (List Row)}, (∀ g ∈ gs, ∃ r ∈ g, col c r = f g) → ∃ m, Ch gs m ∧ (m.map (col c)).sum = (gs.map f).sum
  | [], _ => ⟨[], trivial, rfl⟩
  | g :: gs, h => by
    obtain ⟨r, h1, h2⟩ := h g List.mem_cons_self
    obtain ⟨m, m1, m2⟩ := ch_sum (gs := gs) fun g hg => h g (List.mem_cons_of_mem _ hg)
    exact ⟨r :: m, ⟨h1, m1⟩, by rw [List.map_cons, List.map_cons, List.sum_cons, List.sum_cons, h2, m2]⟩
def totals (gs : List (List Row)) (c : Int) : List Int := (List.range (prodL gs).toNat).map fun (n : Nat) => ((mendF gs (n : Nat)).map (col c)).sum
theorem totals_facts {gs : List (List Row)} {c : Int} (h : ∀ g ∈ gs, g ≠ []) : (gs.map (minC c)).sum ∈ totals gs c ∧ (gs.map (maxC c)).sum ∈ totals gs c ∧ ∀ t ∈ totals gs c, (gs.map (minC c)).sum ≤ t ∧ t ≤ (gs.map (maxC c)).sum := by
  have reach : ∀ m, Ch gs m → (m.map (col c)).sum ∈ totals gs c := fun m hm => by
    obtain ⟨n, n0, n1, e⟩ := ch_mendF hm
    refine List.mem_map.mpr ⟨n.toNat, List.mem_range.mpr (by omega), ?_⟩
    rw [Int.toNat_of_nonneg n0, e]
  refine ⟨?_, ?_, fun t ht => ?_⟩
  · obtain ⟨m, m1, m2⟩ := ch_sum (c := c) (f := minC c) fun g hg => minC_mem (h g hg)
    rw [← m2]
    exact reach m m1
  · obtain ⟨m, m1, m2⟩ := ch_sum (c := c) (f := maxC c) fun g hg => maxC_mem (h g hg)
    rw [← m2]
    exact reach m m1
  · obtain ⟨n, _, rfl⟩ := List.mem_map.mp ht
    exact ch_ge (mendF_ch (gs := gs) (n : Nat) h)
theorem fold_min_is {x m : Int} {xs : List Int} (h1 : m ∈ x :: xs) (h2 : ∀ y ∈ x :: xs, m ≤ y) : xs.foldl min x = m := by
  have lo : ∀ (l : List Int) (a : Int), l.foldl min a ≤ a ∧ ∀ y ∈ l, l.foldl min a ≤ y := fun l => by
    induction l with
    | nil => intro a; exact ⟨Int.le_refl _, fun _ z => nomatch z⟩
    | cons y l ih =>
      intro a
      obtain ⟨j1, j2⟩ := ih (min a y)
      rw [List.foldl_cons]
      refine ⟨by omega, fun z hz => ?_⟩
      rcases List.mem_cons.mp hz with rfl | hz
      · omega
      · exact j2 z hz
  have a1 : m ≤ xs.foldl min x := by
    rcases fold_min_mem xs x with e | e
    · rw [e]; exact h2 x List.mem_cons_self
    · exact h2 _ (List.mem_cons_of_mem _ e)
  have a2 : xs.foldl min x ≤ m := by
    rcases List.mem_cons.mp h1 with rfl | h1
    · exact (lo xs m).1
    · exact (lo xs x).2 m h1
  omega
theorem fold_max_is {x m : Int} {xs : List Int} (h1 : m ∈ x :: xs) (h2 : ∀ y ∈ x :: xs, y ≤ m) : xs.foldl max x = m := by
  have hi : ∀ (l : List Int) (a : Int), a ≤ l.foldl max a ∧ ∀ y ∈ l, y ≤ l.foldl max a := fun l => by
    induction l with
    | nil => intro a; exact ⟨Int.le_refl _, fun _ z => nomatch z⟩
    | cons y l ih =>
      intro a
      obtain ⟨j1, j2⟩ := ih (max a y)
      rw [List.foldl_cons]
      refine ⟨by omega, fun z hz => ?_⟩
      rcases List.mem_cons.mp hz with rfl | hz
      · omega
      · exact j2 z hz
  have a1 : xs.foldl max x ≤ m := by
    rcases fold_max_mem xs x with e | e
    · rw [e]; exact h2 x List.mem_cons_self
    · exact h2 _ (List.mem_cons_of_mem _ e)
  have a2 : m ≤ xs.foldl max x := by
    rcases List.mem_cons.mp h1 with rfl | h1
    · exact (hi xs m).1
    · exact (hi xs x).2 m h1
  omega
end K69

set_option maxHeartbeats 4000000
/-! M69g: rows added, other keys, tables apart. -/
namespace K69
open PySem Ab
/-! a question for one column -/
def ask (wd : Nat) (c v : Int) : Ques := (List.range wd).map fun (k : Nat) => if (k : Int) = c then some v else none
theorem ask_len {wd : Nat} {c v : Int} : (ask wd c v).length = wd := by unfold ask; rw [List.length_map, List.length_range]
theorem fits_ask {wd : Nat} {c v : Int} {r : Row} (c0 : 0 ≤ c) (c1 : c < (wd : Int)) : fitsF (ask wd c v) r = decide (col c r = v) := by
  unfold fitsF
  rw [Bool.eq_iff_iff, List.all_eq_true]
  constructor
  · intro h
    have hm : (c.toNat, some v) ∈ enumL 0 (ask wd c v) := by
      have hx : enumL 0 (ask wd c v) = enumL 0 ((ask wd c v).take c.toNat ++ some v :: (ask wd c v).drop (c.toNat + 1)) := by
        congr 1
        have hl : c.toNat < (ask wd c v).length := by rw [ask_len]; omega
        have he : (ask wd c v)[c.toNat] = some v := by
          have z : ∀ (l : List (Option Int)) (h : c.toNat < l.length), l = (List.range wd).map (fun (k : Nat) => if (k : Int) = c then some v else none) → l[c.toNat] = some v := fun l h e => by
            subst e
            rw [List.getElem_map, List.getElem_range, if_pos (by omega)]
          exact z _ hl rfl
        rw [← he, List.getElem_cons_drop hl, List.take_append_drop]
      rw [hx, enumL_app]
      refine List.mem_append_right _ ?_
      have hlt : ((ask wd c v).take c.toNat).length = c.toNat := by rw [List.length_take, ask_len]; omega
      rw [hlt, Nat.zero_add]
      exact List.mem_cons_self
    exact h _ hm
  · intro h
    rintro ⟨i, w⟩ hp
    obtain ⟨_, h2⟩ := enumL_mem hp
    have h3 : (ask wd c v)[i - 0]? = some w := h2
    clear h2
    unfold ask at h3
    rw [List.getElem?_map, Nat.sub_zero] at h3
    cases hi : (List.range wd)[i]? with
    | none => rw [hi] at h3; cases h3
    | some j =>
      rw [hi] at h3
      have hj : j = i := by
        obtain ⟨a, b⟩ := List.getElem?_eq_some_iff.mp hi
        rw [List.getElem_range] at b
        exact b.symm
      subst hj
      have h2 : (if (j : Int) = c then some v else none) = w := Option.some.inj h3
      by_cases e : (j : Int) = c
      · rw [if_pos e] at h2
        subst h2
        show decide (r.getD j 0 = v) = true
        have h := of_decide_eq_true h
        unfold col at h
        rw [← e, Int.toNat_natCast] at h
        exact decide_eq_true h
      · rw [if_neg e] at h2
        subst h2
        rfl
theorem nAll_cons (q : Ques) (g : List Row) (gs : List (List Row)) : nAll q (g :: gs) = (if g.all (fitsF q) = true then 1 else 0) + nAll q gs := by
  unfold nAll
  by_cases h : g.all (fitsF q) = true
  · rw [List.filter_cons_of_pos (p := fun g : List Row => g.all (fitsF q)) h, if_pos h, List.length_cons, Nat.add_comm]
  · rw [List.filter_cons_of_neg (p := fun g : List Row => g.all (fitsF q)) h, if_neg h, Nat.zero_add]
theorem nAny_cons (q : Ques) (g : List Row) (gs : List (List Row)) : nAny q (g :: gs) = (if g.any (fitsF q) = true then 1 else 0) + nAny q gs := by
  unfold nAny
  by_cases h : g.any (fitsF q) = true
  · rw [List.filter_cons_of_pos (p := fun g : List Row => g.any (fitsF q)) h, if_pos h, List.length_cons, Nat.add_comm]
  · rw [List.filter_cons_of_neg (p := fun g : List Row => g.any (fitsF q)) h, if_neg h, Nat.zero_add]
theorem three {wd : Nat} {c : Int} (c0 : 0 ≤ c) (c1 : c < (wd : Int)) : ∀ {gs : List (List Row)}, (∀ g ∈ gs, g ≠ [] ∧ ∀ r ∈ g, 0 ≤ col c r ∧ col c r < 3) →
    nAll (ask wd c 0) gs + nAll (ask wd c 1) gs + nAll (ask wd c 2) gs ≤ gs.length ∧ gs.length ≤ nAny (ask wd c 0) gs + nAny (ask wd c 1) gs + nAny (ask wd c 2) gs ∧
    ((∀ g ∈ gs, ∀ r ∈ g, ∀ s ∈ g, col c r = col c s) → nAll (ask wd c 0) gs + nAll (ask wd c 1) gs + nAll (ask wd c 2) gs = nAny (ask wd c 0) gs + nAny (ask wd c 1) gs + nAny (ask wd c 2) gs)
  | [], _ => ⟨Nat.le_refl _, Nat.le_refl _, fun _ => rfl⟩
  | g :: gs, h => by
    obtain ⟨i1, i2, i3⟩ := three c0 c1 (gs := gs) fun g hg => h g (List.mem_cons_of_mem _ hg)
    obtain ⟨hne, hr⟩ := h g List.mem_cons_self
    obtain ⟨r, hrm⟩ := List.exists_mem_of_ne_nil g hne
    have hA : ∀ v, g.all (fitsF (ask wd c v)) = true → col c r = v := fun v z => by
      have := List.all_eq_true.mp z r hrm
      rw [fits_ask c0 c1] at this
      exact of_decide_eq_true this
    have hE : ∀ v, col c r = v → g.any (fitsF (ask wd c v)) = true := fun v z => by
      refine List.any_eq_true.mpr ⟨r, hrm, ?_⟩
      rw [fits_ask c0 c1]
      exact decide_eq_true z
    have b := hr r hrm
    have a0 := hA 0
    have a1 := hA 1
    have a2 := hA 2
    have e0 := hE 0
    have e1 := hE 1
    have e2 := hE 2
    rw [nAll_cons, nAll_cons, nAll_cons, nAny_cons, nAny_cons, nAny_cons, List.length_cons]
    refine ⟨?_, ?_, fun hc => ?_⟩
    · split <;> split <;> split <;> first | omega | (exfalso; simp_all)
    · rcases (by omega : col c r = 0 ∨ col c r = 1 ∨ col c r = 2) with z | z | z
      · rw [if_pos (e0 z)]; omega
      · rw [if_pos (e1 z)]; omega
      · rw [if_pos (e2 z)]; omega
    · have same : ∀ v, g.all (fitsF (ask wd c v)) = g.any (fitsF (ask wd c v)) := fun v => by
        have one : ∀ s ∈ g, fitsF (ask wd c v) s = fitsF (ask wd c v) r := fun s hs => by
          rw [fits_ask c0 c1, fits_ask c0 c1, hc g List.mem_cons_self s hs r hrm]
        cases hv : fitsF (ask wd c v) r with
        | true => rw [List.all_eq_true.mpr fun s hs => by rw [one s hs, hv], List.any_eq_true.mpr ⟨r, hrm, hv⟩]
        | false =>
          rw [Bool.eq_iff_iff]
          constructor
          · intro z
            have := List.all_eq_true.mp z r hrm
            rw [hv] at this
            cases this
          · intro z
            obtain ⟨s, hs, z⟩ := List.any_eq_true.mp z
            rw [one s hs, hv] at z
            cases z
      have ih := i3 fun g hg => hc g (List.mem_cons_of_mem _ hg)
      rw [same, same, same]
      omega
/-! a row added -/
def prodK (f : Row → Nat) : List Row → Nat
  | [] => 1
  | k :: ks => f k * prodK f ks
theorem prodK_pos {f : Row → Nat} : ∀ {ks : List Row}, (∀ k ∈ ks, 1 ≤ f k) → 1 ≤ prodK f ks
  | [], _ => Nat.le_refl _
  | k :: ks, h => Nat.mul_pos (h k List.mem_cons_self) (prodK_pos fun k hk => h k (List.mem_cons_of_mem _ hk))
theorem prodK_perm {f : Row → Nat} {a b : List Row} (h : a.Perm b) : prodK f a = prodK f b := by
  induction h with
  | nil => rfl
  | cons x _ ih => show f x * _ = f x * _; rw [ih]
  | swap x y l => show f y * (f x * _) = f x * (f y * _); rw [Nat.mul_left_comm]
  | trans _ _ i1 i2 => rw [i1, i2]
theorem prodK_le {f g : Row → Nat} : ∀ {ks ks2 : List Row}, ks.Nodup → (∀ k ∈ ks, k ∈ ks2) → (∀ k ∈ ks, f k ≤ g k) → (∀ k ∈ ks2, 1 ≤ g k) → prodK f ks ≤ prodK g ks2
  | [], ks2, _, _, _, h => prodK_pos h
  | k :: ks, ks2, nd, hs, hf, hg => by
    rw [List.nodup_cons] at nd
    have hk := hs k List.mem_cons_self
    have p := List.perm_cons_erase hk
    rw [prodK_perm p]
    refine Nat.mul_le_mul (hf k List.mem_cons_self) (prodK_le nd.2 (fun x hx => ?_) (fun x hx => hf x (List.mem_cons_of_mem _ hx)) fun x hx => hg x (List.mem_of_mem_erase hx))
    rcases List.mem_cons.mp (p.mem_iff.mp (hs x (List.mem_cons_of_mem _ hx))) with e | e
    · rw [e] at hx
      exact absurd hx nd.1
    · exact e
theorem prodN_cons (g : List Row) (gs : List (List Row)) : prodN (g :: gs) = g.length * prodN gs := by simp [prodN, Nat.mul_comm]
theorem prodN_map (rows : List Row) (key : Row) : ∀ ks : List Row, prodN (ks.map (grp rows key)) = prodK (fun k => (grp rows key k).length) ks
  | [] => rfl
  | k :: ks => by
    rw [List.map_cons, prodN_cons, prodN_map rows key ks]
    rfl
theorem countF_eq (rows : List Row) (key : Row) : countF rows key = (prodK (fun k => (grp rows key k).length) (gk rows key) : Nat) := by
  unfold countF
  rw [prodL_eq, ← prodN_eq]
  unfold groupsF
  rw [prodN_map]
theorem asc_nodup {l : List Row} (h : l.Pairwise (· < ·)) : l.Nodup := h.imp fun {a b} hab e => by
  rw [e] at hab
  exact List.lt_irrefl b hab
theorem grp_mem {rows : List Row} {key k r : Row} : r ∈ grp rows key k ↔ r ∈ rows ∧ kf key r = k := by
  unfold grp
  rw [List.mem_filter, decide_eq_true_eq]
theorem count_more {rows more : List Row} {key : Row} (nd : rows.Nodup) (h : ∀ r ∈ rows, r ∈ more) : countF rows key ≤ countF more key := by
  rw [countF_eq, countF_eq]
  refine Int.ofNat_le.mpr (prodK_le (gk_nodup rows key) (fun k hk => ?_) (fun k _ => ?_) fun k hk => ?_)
  · obtain ⟨r, h1, h2⟩ := gk_mem.mp hk
    exact gk_mem.mpr ⟨r, h r h1, h2⟩
  · refine List.Nodup.length_le_of_subset (nd.filter _) fun r hr => ?_
    obtain ⟨h1, h2⟩ := grp_mem.mp hr
    exact grp_mem.mpr ⟨h r h1, h2⟩
  · obtain ⟨r, h1, h2⟩ := gk_mem.mp hk
    exact List.length_pos_of_mem (grp_mem.mpr ⟨h1, h2⟩)
/-! other keys -/
theorem kf_eq {key a b : Row} : kf key a = kf key b ↔ ∀ c ∈ key, col c a = col c b := by
  unfold kf col
  exact List.map_inj_left
theorem wide_groups {rows : List Row} {key wide : Row} (h : ∀ c ∈ key, c ∈ wide) : (groupsF rows key).length ≤ (groupsF rows wide).length := by
  unfold groupsF
  rw [List.length_map, List.length_map]
  let φ : Row → Row := fun w => kf key ((rows.find? fun r => decide (kf wide r = w)).getD [])
  have hs : ∀ k ∈ gk rows key, k ∈ (gk rows wide).map φ := fun k hk => by
    obtain ⟨r, h1, h2⟩ := gk_mem.mp hk
    refine List.mem_map.mpr ⟨kf wide r, gk_mem.mpr ⟨r, h1, rfl⟩, ?_⟩
    cases hf : rows.find? fun x => decide (kf wide x = kf wide r) with
    | none =>
      have := List.find?_eq_none.mp hf r h1
      simp at this
    | some x =>
      have hx := List.find?_some hf
      have hx : kf wide x = kf wide r := of_decide_eq_true hx
      show kf key ((rows.find? fun x => decide (kf wide x = kf wide r)).getD []) = k
      rw [hf, ← h2]
      exact kf_eq.mpr fun c hc => kf_eq.mp hx c (h c hc)
  have := List.Nodup.length_le_of_subset (gk_nodup rows key) hs
  rwa [List.length_map] at this
theorem wide_sure {q : Ques} {rows : List Row} {key wide : Row} (h : ∀ c ∈ key, c ∈ wide) (hs : (groupsF rows key).any (fun g => (left q g).isEmpty) = true) : (groupsF rows wide).any (fun g => (left q g).isEmpty) = true := by
  obtain ⟨g, hg, hl⟩ := List.any_eq_true.mp hs
  rw [left_nil] at hl
  obtain ⟨k, hk, rfl⟩ := List.mem_map.mp hg
  obtain ⟨r, h1, h2⟩ := gk_mem.mp hk
  refine List.any_eq_true.mpr ⟨grp rows wide (kf wide r), List.mem_map.mpr ⟨_, gk_mem.mpr ⟨r, h1, rfl⟩, rfl⟩, ?_⟩
  rw [left_nil, List.all_eq_true]
  intro x hx
  obtain ⟨x1, x2⟩ := grp_mem.mp hx
  exact List.all_eq_true.mp hl x (grp_mem.mpr ⟨x1, by rw [← h2]; exact kf_eq.mpr fun c hc => kf_eq.mp x2 c (h c hc)⟩)
theorem count_all_cols {wd : Nat} {rows : List Row} (nd : rows.Nodup) (hw : ∀ r ∈ rows, r.length = wd) : countF rows ((List.range wd).map fun (k : Nat) => (k : Int)) = 1 := by
  have kid : ∀ r ∈ rows, kf ((List.range wd).map fun (k : Nat) => (k : Int)) r = r := fun r hr => by
    unfold kf
    rw [List.map_map]
    refine List.ext_getElem (by rw [List.length_map, List.length_range, hw r hr]) fun i a b => ?_
    rw [List.getElem_map, List.getElem_range]
    show r.getD ((i : Int)).toNat 0 = _
    rw [Int.toNat_natCast]
    exact getD_mem b
  rw [countF_eq]
  have one : ∀ ks : List Row, (∀ k ∈ ks, (grp rows ((List.range wd).map fun (k : Nat) => (k : Int)) k).length = 1) → prodK (fun k => (grp rows ((List.range wd).map fun (k : Nat) => (k : Int)) k).length) ks = 1 := fun ks => by
    induction ks with
    | nil => intro _; rfl
    | cons k ks ih =>
      intro h
      show (grp rows ((List.range wd).map fun (k : Nat) => (k : Int)) k).length * prodK _ ks = 1
      rw [ih fun k hk => h k (List.mem_cons_of_mem _ hk), h k List.mem_cons_self]
  rw [one]
  · rfl
  · intro k hk
    obtain ⟨r, h1, h2⟩ := gk_mem.mp hk
    have ge : 0 < (grp rows ((List.range wd).map fun (k : Nat) => (k : Int)) k).length := List.length_pos_of_mem (grp_mem.mpr ⟨h1, h2⟩)
    have le : (grp rows ((List.range wd).map fun (k : Nat) => (k : Int)) k).length ≤ [k].length := List.Nodup.length_le_of_subset (nd.filter _) fun x hx => by
      obtain ⟨x1, x2⟩ := grp_mem.mp hx
      rw [kid x x1] at x2
      rw [x2]
      exact List.mem_cons_self
    simp only [List.length_cons, List.length_nil] at le
    omega
theorem count_no_cols {rows : List Row} (hne : rows ≠ []) : countF rows [] = rows.length := by
  have e : gk rows [] = [[]] := by
    obtain ⟨r, hr⟩ := List.exists_mem_of_ne_nil rows hne
    have h1 : ([] : Row) ∈ gk rows [] := gk_mem.mpr ⟨r, hr, rfl⟩
    have h2 : ∀ k ∈ gk rows [], k = [] := fun k hk => by
      obtain ⟨r, _, h2⟩ := gk_mem.mp hk
      exact h2.symm
    have nd := gk_nodup rows []
    cases hg : gk rows [] with
    | nil => rw [hg] at h1; cases h1
    | cons a l =>
      rw [hg] at h2 nd
      have ha := h2 a List.mem_cons_self
      subst ha
      cases l with
      | nil => rfl
      | cons b l =>
        have hb := h2 b (List.mem_cons_of_mem _ List.mem_cons_self)
        subst hb
        rw [List.nodup_cons] at nd
        exact absurd List.mem_cons_self nd.1
  unfold countF groupsF
  rw [e]
  have g : grp rows [] [] = rows := by
    unfold grp
    exact List.filter_eq_self.mpr fun r _ => decide_eq_true rfl
  show prodL [grp rows [] []] = _
  rw [g]
  show 1 * (rows.length : Int) = _
  omega
/-! few mendings -/
theorem prodN_two : ∀ gs : List (List Row), prodN gs ≤ 2 ^ (gs.map List.length).sum
  | [] => Nat.le_refl _
  | g :: gs => by
    rw [prodN_cons, List.map_cons, List.sum_cons, Nat.pow_add]
    exact Nat.mul_le_mul (Nat.le_of_lt Nat.lt_two_pow_self) (prodN_two gs)
theorem count_few {rows : List Row} {key : Row} (h : rows.length ≤ 8) : countF rows key ≤ 256 := by
  unfold countF
  rw [prodL_eq, ← prodN_eq]
  have h1 := prodN_two (groupsF rows key)
  rw [sum_groups] at h1
  have h2 : 2 ^ rows.length ≤ 2 ^ 8 := Nat.pow_le_pow_right (by decide) h
  omega
theorem count_one {wd : Nat} {rows : List Row} {key : Row} (hT : OkTab wd rows key) : 1 ≤ countF rows key := by
  unfold countF
  rw [prodL_eq]
  exact prodR_pos fun g hg => (groups_ok hT g hg).ne
/-! tables apart -/
theorem ch_rest {x : List Row} {c o : Int} : ∀ {gs : List (List Row)}, ((rest x gs c o).all fun g => !g.isEmpty) = true → Ch gs ((rest x gs c o).map fun g => g.getD 0 []) ∧ ∀ s ∈ (rest x gs c o).map fun g => g.getD 0 [], ∀ r ∈ x, col c r ≠ col o s
  | [], _ => ⟨trivial, fun _ z => nomatch z⟩
  | g :: gs, h => by
    have h : (!(g.filter fun r => !decide (col o r ∈ x.map (col c))).isEmpty && (rest x gs c o).all fun g => !g.isEmpty) = true := h
    rw [Bool.and_eq_true] at h
    obtain ⟨i1, i2⟩ := ch_rest (gs := gs) h.2
    cases hg : g.filter fun r => !decide (col o r ∈ x.map (col c)) with
    | nil => rw [hg] at h; exact absurd h.1 (by simp)
    | cons a l =>
      have ha : a ∈ g.filter fun r => !decide (col o r ∈ x.map (col c)) := by rw [hg]; exact List.mem_cons_self
      obtain ⟨ha1, ha2⟩ := List.mem_filter.mp ha
      have e : (rest x (g :: gs) c o).map (fun g => g.getD 0 []) = a :: (rest x gs c o).map fun g => g.getD 0 [] := by
        show (g.filter fun r => !decide (col o r ∈ x.map (col c))).getD 0 [] :: _ = _
        rw [hg]
        rfl
      rw [e]
      refine ⟨⟨ha1, i1⟩, fun s hs r hr => ?_⟩
      rcases List.mem_cons.mp hs with rfl | hs
      · intro z
        have : decide (col o s ∈ x.map (col c)) = true := decide_eq_true (List.mem_map.mpr ⟨r, hr, z⟩)
        rw [this] at ha2
        cases ha2
      · exact i2 s hs r hr
theorem apart_some {g1 g2 : List (List Row)} {c o : Int} (hne : ∀ g ∈ g1, g ≠ []) {x y : List Row} (h : apartF g1 g2 c o = some (x, y)) : Ch g1 x ∧ Ch g2 y ∧ ∀ s ∈ y, ∀ r ∈ x, col c r ≠ col o s := by
  unfold apartF at h
  cases hf : (List.range (prodL g1).toNat).find? fun (k : Nat) => (rest (mendF g1 k) g2 c o).all fun g => !g.isEmpty with
  | none => rw [hf] at h; cases h
  | some k =>
    rw [hf] at h
    have hk := List.find?_some hf
    cases h
    exact ⟨mendF_ch (k : Nat) hne, (ch_rest hk).1, (ch_rest hk).2⟩
theorem apart_none {g1 g2 : List (List Row)} {c o : Int} : apartF g1 g2 c o = none ↔ ∀ x y, Ch g1 x → Ch g2 y → ∃ r ∈ x, ∃ s ∈ y, col c r = col o s := by
  have hd : apartF g1 g2 c o = none ↔ ∀ k ∈ List.range (prodL g1).toNat, ¬ ((rest (mendF g1 (k : Nat)) g2 c o).all fun g => !g.isEmpty) = true := by
    rw [← List.find?_eq_none]
    unfold apartF
    cases (List.range (prodL g1).toNat).find? fun (k : Nat) => (rest (mendF g1 k) g2 c o).all fun g => !g.isEmpty with
    | none => exact ⟨fun _ => rfl, fun _ => rfl⟩
    | some k => exact ⟨fun z => (nomatch z), fun z => (nomatch z)⟩
  rw [hd]
  constructor
  · intro h x y hx hy
    obtain ⟨n, n0, n1, e⟩ := ch_mendF hx
    have z := h n.toNat (List.mem_range.mpr (by omega))
    rw [Int.toNat_of_nonneg n0, e] at z
    refine Classical.byContradiction fun no => z ?_
    rw [List.all_eq_true]
    intro g hg
    obtain ⟨g0, hg0, rfl⟩ := List.mem_map.mp hg
    obtain ⟨s, hs1, hs2⟩ := hy.of g0 hg0
    cases hq : g0.filter fun r => !decide (col o r ∈ x.map (col c)) with
    | cons a l => rfl
    | nil =>
      have := List.filter_eq_nil_iff.mp hq s hs2
      have hm : col o s ∈ x.map (col c) := by simpa using this
      obtain ⟨r, hr, er⟩ := List.mem_map.mp hm
      exact absurd ⟨r, hr, s, hs1, er⟩ no
  · intro h k hk z
    by_cases hne : ∀ g ∈ g1, g ≠ []
    · obtain ⟨c1, c2⟩ := ch_rest z
      obtain ⟨r, hr, s, hs, e⟩ := h _ _ (mendF_ch (k : Nat) hne) c1
      exact c2 s hs r hr e
    · have : prodL g1 = 0 := by
        rw [prodL_eq]
        have zero : ∀ gs : List (List Row), (∃ g ∈ gs, g = []) → prodR gs = 0 := fun gs => by
          induction gs with
          | nil => rintro ⟨_, h, _⟩; cases h
          | cons a gs ih =>
            rintro ⟨g, hg, rfl⟩
            rcases List.mem_cons.mp hg with rfl | hg
            · show ((([] : List Row).length : Nat) : Int) * prodR gs = 0
              simp
            · show (a.length : Int) * prodR gs = 0
              rw [ih ⟨_, hg, rfl⟩, Int.mul_zero]
        refine zero g1 (Classical.byContradiction fun no => hne fun g hg e => no ⟨g, hg, e⟩)
      rw [this] at hk
      exact absurd (List.mem_range.mp hk) (by simp)
theorem apart_back {g1 g2 : List (List Row)} {c o : Int} : (apartF g2 g1 o c = none) ↔ (apartF g1 g2 c o = none) := by
  rw [apart_none, apart_none]
  constructor
  · intro h x y hx hy
    obtain ⟨r, hr, s, hs, e⟩ := h y x hy hx
    exact ⟨s, hs, r, hr, e.symm⟩
  · intro h x y hx hy
    obtain ⟨r, hr, s, hs, e⟩ := h y x hy hx
    exact ⟨s, hs, r, hr, e.symm⟩
theorem pairs_nil {x y : List Row} {c o : Int} (h : ∀ s ∈ y, ∀ r ∈ x, col c r ≠ col o s) : pairsF x y c o = [] := by
  unfold pairsF
  rw [List.flatten_eq_nil_iff]
  intro l hl
  obtain ⟨r, hr, rfl⟩ := List.mem_map.mp hl
  rw [List.map_eq_nil_iff, List.filter_eq_nil_iff]
  intro s hs z
  exact h s hs r hr (of_decide_eq_true z)
/-! tables of the law's rows -/
theorem OkRows.tab {wd : Nat} {rows : List Row} {key : Row} (h : OkRows wd rows) (hw : wd ≤ 3) (k1 : key.Pairwise (· < ·)) (k2 : ∀ x ∈ key, 0 ≤ x ∧ x < (wd : Int)) : OkTab wd rows key :=
  ⟨h.ne, by have := h.few; omega, by omega, h.wid, h.asc, k1, k2⟩
end K69

set_option maxHeartbeats 4000000
namespace K69
open PySem PySem.Spec PyProof.Rows L2 Ab
def lowF (c : Int) (wd : Nat) (gs : List (List Row)) : Int := ((List.range 3).map fun (v : Nat) => ((nAll (ask wd c (v : Int)) gs : Nat) : Int)).sum
def highF (c : Int) (wd : Nat) (gs : List (List Row)) : Int := ((List.range 3).map fun (v : Nat) => ((nAny (ask wd c (v : Int)) gs : Nat) : Int)).sum
theorem sum_app (xs : List Int) (y : Int) : (xs ++ [y]).sum = xs.sum + y := by
  induction xs with
  | nil => simp
  | cons x xs ih => rw [List.cons_append, List.sum_cons, List.sum_cons, ih]; omega
theorem low_high {c : Int} {wd : Nat} {gs : List (List Row)} (c0 : 0 ≤ c) (c1 : c < (wd : Int)) (h : ∀ g ∈ gs, g ≠ [] ∧ ∀ r ∈ g, 0 ≤ col c r ∧ col c r < 3) :
    lowF c wd gs ≤ gs.length ∧ gs.length ≤ highF c wd gs ∧ ((∀ g ∈ gs, ∀ r ∈ g, ∀ s ∈ g, col c r = col c s) → lowF c wd gs = highF c wd gs) := by
  have e1 : lowF c wd gs = (nAll (ask wd c 0) gs : Int) + ((nAll (ask wd c 1) gs : Int) + ((nAll (ask wd c 2) gs : Int) + 0)) := rfl
  have e2 : highF c wd gs = (nAny (ask wd c 0) gs : Int) + ((nAny (ask wd c 1) gs : Int) + ((nAny (ask wd c 2) gs : Int) + 0)) := rfl
  obtain ⟨a, b, d⟩ := three c0 c1 h
  refine ⟨by omega, by omega, fun hc => ?_⟩
  have := d hc
  omega
theorem col_rng {wd : Nat} {rows : List Row} {c : Int} (hR : OkRows wd rows) (c0 : 0 ≤ c) (c1 : c < (wd : Int)) {r : Row} (hr : r ∈ rows) : 0 ≤ col c r ∧ col c r < 3 := by
  have hw := hR.wid r hr
  have hl : c.toNat < r.length := by omega
  unfold col
  rw [getD_mem hl]
  exact hR.rng r hr _ (List.getElem_mem hl)
theorem grp_sub {rows : List Row} {key : Row} {g : List Row} (hg : g ∈ groupsF rows key) {r : Row} (hr : r ∈ g) : r ∈ rows := by
  obtain ⟨k, _, rfl⟩ := List.mem_map.mp hg
  exact (grp_mem.mp hr).1
theorem grp_col {rows : List Row} {key : Row} {g : List Row} {c : Int} (hg : g ∈ groupsF rows key) (hk : c ∈ key) {r s : Row} (hr : r ∈ g) (hs : s ∈ g) : col c r = col c s := by
  obtain ⟨k, _, rfl⟩ := List.mem_map.mp hg
  exact kf_eq.mp ((grp_mem.mp hr).2.trans (grp_mem.mp hs).2.symm) c hk
theorem asc_few {key : Row} {wd : Nat} (h : key.Pairwise (· < ·)) (hr : ∀ x ∈ key, 0 ≤ x ∧ x < (wd : Int)) : key.length ≤ wd := by
  have nd : (key.map Int.toNat).Nodup := by
    refine List.pairwise_map.mpr (h.imp_of_mem fun {x y} hx hy hab e => ?_)
    have := hr x hx
    have := hr y hy
    omega
  have := nd.length_le_of_subset (l₂ := List.range wd) fun x hx => by
    obtain ⟨y, hy, rfl⟩ := List.mem_map.mp hx
    have := hr y hy
    exact List.mem_range.mpr (by omega)
  rwa [List.length_map, List.length_range] at this
theorem range_asc (wd : Nat) : ((List.range wd).map fun (k : Nat) => (k : Int)).Pairwise (· < ·) :=
  List.pairwise_map.mpr (List.pairwise_lt_range.imp fun h => by omega)
theorem range_rng (wd : Nat) : ∀ x ∈ (List.range wd).map fun (k : Nat) => (k : Int), 0 ≤ x ∧ x < (wd : Int) := fun x hx => by
  obtain ⟨k, hk, rfl⟩ := List.mem_map.mp hx
  have := List.mem_range.mp hk
  omega
theorem range_tI (wd : Nat) : (PyData.tuple (rangeD 0 (wd : Int).toNat)) = tI ((List.range wd).map fun (k : Nat) => (k : Int)) := by
  rw [rangeD0, Int.toNat_natCast]
  show _ = PyData.tuple (((List.range wd).map fun (k : Nat) => (k : Int)).map PyData.int)
  rw [List.map_map]
  rfl
theorem sure_two (q : Ques) (gs : List (List Row)) : (∃ i, sureF q gs 0 = .tuple [sv "sure", i] ∧ gs.any (fun g => (left q g).isEmpty) = true) ∨ (∃ x, sureF q gs 0 = .tuple [sv "not", x] ∧ gs.any (fun g => (left q g).isEmpty) = false) := by
  unfold sureF
  have e : gs.any (fun g => (left q g).isEmpty) = (enumL 0 gs).any fun p => (left q p.2).isEmpty := by
    have z := enumL_snd gs 0
    generalize enumL 0 gs = L at z
    rw [← z, List.any_map]
    rfl
  cases h : (enumL 0 gs).find? fun p => (left q p.2).isEmpty with
  | some p =>
    refine .inl ⟨_, rfl, ?_⟩
    rw [e, List.any_eq_true]
    exact ⟨p, List.mem_of_find?_eq_some h, List.find?_some (p := fun p : Nat × List Row => (left q p.2).isEmpty) h⟩
  | none =>
    refine .inr ⟨_, rfl, ?_⟩
    rw [e, List.any_eq_false]
    exact List.find?_eq_none.mp h
theorem sNe_str {a b : Str} {k : PyData → Prop} : sNe (.str a) (.str b) k = k (.bool (!decide (a = b))) := by
  unfold sNe
  rw [show (PyData.str a).depth = 0 from rfl]
  simp [PyData.eqv, PySem.W.beq_decide]
theorem isN_apart {x : Option (List Row × List Row)} {k : PyData → Prop} : sIsN (eApart x) .none k = k (.bool x.isNone) := by
  cases x with
  | none => rw [eApart, isN_none]; rfl
  | some p => rw [eApart, isN_tup]; rfl
section
variable {P : Program} {w : World} {K : PySem.W.Frag} {mg : Str → Option Value} {base : Heap}
theorem ok__law_part1 (D : Defs K mg) : FnOk P w K mg base CX0 5 D.f__law_part1 D.fd__law_part1 ["d", "width", "rows", "key", "many", "parts", "question", "kind", "column"] (toSp K sp__law_part1) := by
  have G_counts : FnOk P w K mg base CX0 3 D.f_counts D.fd_counts ["rows", "key", "question"] (toSp K sp_counts) := ok_counts D
  have G__law_take : FnOk P w K mg base CX0 1 D.f__law_take D.fd__law_take ["d", "many"] (toSp K sp__law_take) := ok__law_take D
  have G_count : FnOk P w K mg base CX0 2 D.f_count D.fd_count ["rows", "key"] (toSp K sp_count) := ok_count D
  have G_groups : FnOk P w K mg base CX0 2 D.f_groups D.fd_groups ["rows", "key"] (toSp K sp_groups) := ok_groups D
  have G_is_sure : FnOk P w K mg base CX0 3 D.f_is_sure D.fd_is_sure ["rows", "key", "question"] (toSp K sp_is_sure) := ok_is_sure D
  have G__law_rows : FnOk P w K mg base CX0 2 D.f__law_rows D.fd__law_rows ["d", "width"] (toSp K sp__law_rows) := ok__law_rows D
  have G_apart : FnOk P w K mg base CX0 4 D.f_apart D.fd_apart ["first", "key", "second", "other_key", "column", "other"] (toSp K sp_apart) := ok_apart D
  have G_takes_apart : FnOk P w K mg base CX0 3 D.f_takes_apart D.fd_takes_apart ["first", "key", "second", "other_key", "column", "other", "told"] (toSp K sp_takes_apart) := ok_takes_apart D
  have G_mending_at : FnOk P w K mg base CX0 3 D.f_mending_at D.fd_mending_at ["rows", "key", "number"] (toSp K sp_mending_at) := ok_mending_at D
  refine ok_def D.F__law_part1 sc__law_part1 (fun oo ds Kc h => ?_) (fun cdv A outer s H E hr =>
      (ss_cons (s_set (ps_set (i := 9) sc__law_part1.nd rfl (.inl rfl) e_int))
      (ss_cons (s_set (ps_set (i := 10) sc__law_part1.nd rfl (.inl rfl) e_int))
      (ss_cons (s_for PassesOwn.never rfl (i_rng1 (by rfl) D.b_range e_int) (g_name (pg_name (i := 11) sc__law_part1.nd rfl (.inr rfl))) (ss_cons (s_set (ps_set (i := 12) sc__law_part1.nd rfl (.inl rfl) (e_callTy call_tuple_of dc_tuple (by rfl) D.b_tuple boot_tuple (e_lc (own := [("k", 13)]) rfl sc__law_part1.nd (i_rng1 (by rfl) D.b_range (e_name (pv 1))) (blkOk_by (by kernel_rfl)) (fun _ _ _ _ _ => (g_name (pg_name (i := 13) sc__law_part1.nd rfl (by first | exact Or.inl rfl | exact Or.inr rfl)))) (fun _ _ _ _ _ => ts_nil) (fun _ _ _ _ _ => (e_ifExp (t_cmp (op_eqP hr.units) dr_eq (e_name (pv 13)) (e_name (pv 8)) (nomark _)) (e_name (pv 11)) e_non))))))
      (ss_cons (s_unp2 (e_call G_counts (hr.mono (by decide)) (by rfl) D.g_counts D.F_counts.kp D.n_counts (x_cons (e_name (pv 2)) (x_cons (e_name (pv 3)) (x_cons (e_name (pv 12)) x_nil)))) (g_tup (pg_tup (n := 2) rfl (gs_cons (g_name (pg_name (i := 14) sc__law_part1.nd rfl (.inl rfl))) (gs_cons (g_name (pg_name (i := 15) sc__law_part1.nd rfl (.inl rfl))) gs_nil)))))
      (ss_cons (s_set (ps_set (i := 9) sc__law_part1.nd rfl (.inl rfl) (e_op op_addU dr_addU (e_name (pv 9)) (e_name (pv 14)))))
      (ss_one (s_set (ps_set (i := 10) sc__law_part1.nd rfl (.inl rfl) (e_op op_addU dr_addU (e_name (pv 10)) (e_name (pv 15))))))))))
      (ss_cons (s_if (t_w (w_orC (t_cmp op_gt dr_b (e_name (pv 9)) (e_callB call_len_seq dc_len (by rfl) D.b_len PySem.boot_len (e_name (pv 5))) (nomark _)) (w_orC (t_cmp (op_ltP hr.units) dr_lt (e_name (pv 10)) (e_callB call_len_seq dc_len (by rfl) D.b_len PySem.boot_len (e_name (pv 5))) (nomark _)) (w_or1 (t_w (w_andC (t_cmpS (op_inP hr.units) dr_in (e_name (pv 8)) (e_name (pv 3))) (w_and1 (t_cmp (op_neP hr.units) dr_ne (e_name (pv 9)) (e_name (pv 10)) (nomark _))))))))) (ss_one (s_ret e_bl)) ss_nil)
      (ss_cons (s_set (ps_set (i := 16) sc__law_part1.nd rfl (.inl rfl) (e_callTy call_tuple_of dc_tuple (by rfl) D.b_tuple boot_tuple (e_lc (own := [("k", 13)]) rfl sc__law_part1.nd (i_rng1 (by rfl) D.b_range (e_name (pv 1))) (blkOk_by (by kernel_rfl)) (fun _ _ _ _ _ => (g_name (pg_name (i := 13) sc__law_part1.nd rfl (by first | exact Or.inl rfl | exact Or.inr rfl)))) (fun _ _ _ _ _ => ts_nil) (fun _ _ _ _ _ => (e_call G__law_take (hr.mono (by decide)) (by rfl) D.g__law_take D.F__law_take.kp D.n__law_take (x_cons (e_name (pv 0)) (x_cons e_int x_nil))))))))
      (ss_cons (s_set (ps_set (i := 17) sc__law_part1.nd rfl (.inl rfl) (e_callTy call_tuple_of dc_tuple (by rfl) D.b_tuple boot_tuple (e_sortSet hr.units D.b_sorted D.b_set (e_op op_addU dr_addU (e_name (pv 2)) (e_tup (x_cons (e_name (pv 16)) x_nil)))))))
      (ss_cons (s_if (t_cmp (op_ltP hr.units) dr_lt (e_call G_count (hr.mono (by decide)) (by rfl) D.g_count D.F_count.kp D.n_count (x_cons (e_name (pv 17)) (x_cons (e_name (pv 3)) x_nil))) (e_name (pv 4)) (nomark _)) (ss_one (s_ret e_bl)) ss_nil)
      (ss_cons (s_set (ps_set (i := 18) sc__law_part1.nd rfl (.inl rfl) (e_callTy call_tuple_of dc_tuple (by rfl) D.b_tuple boot_tuple (e_sortSetI D.b_sorted D.b_set (e_op op_addU dr_addU (e_name (pv 3)) (e_tup (x_cons (e_call G__law_take (hr.mono (by decide)) (by rfl) D.g__law_take D.F__law_take.kp D.n__law_take (x_cons (e_name (pv 0)) (x_cons (e_name (pv 1)) x_nil))) x_nil)))))))
      (ss_cons (s_if (t_w (w_orC (t_cmp (op_ltP hr.units) dr_lt (e_callB call_len_seq dc_len (by rfl) D.b_len PySem.boot_len (e_call G_groups (hr.mono (by decide)) (by rfl) D.g_groups D.F_groups.kp D.n_groups (x_cons (e_name (pv 2)) (x_cons (e_name (pv 18)) x_nil)))) (e_callB call_len_seq dc_len (by rfl) D.b_len PySem.boot_len (e_name (pv 5))) (nomark _)) (w_orC (t_cmp (op_neP hr.units) dr_ne (e_call G_count (hr.mono (by decide)) (by rfl) D.g_count D.F_count.kp D.n_count (x_cons (e_name (pv 2)) (x_cons (e_tupRg D.b_tuple D.b_range (e_name (pv 1))) x_nil))) e_int (nomark _)) (w_or1 (t_cmp (op_neP hr.units) dr_ne (e_call G_count (hr.mono (by decide)) (by rfl) D.g_count D.F_count.kp D.n_count (x_cons (e_name (pv 2)) (x_cons (e_tup x_nil) x_nil))) (e_callB call_len_seq dc_len (by rfl) D.b_len PySem.boot_len (e_name (pv 2))) (nomark _)))))) (ss_one (s_ret e_bl)) ss_nil)
      (ss_cons (s_if (t_w (w_andC (t_cmp (op_eqP hr.units) dr_eq (e_name (pv 7)) e_str (nomark _)) (w_andC (t_cmp (op_neP hr.units) dr_ne (e_name (pv 3)) (e_tup x_nil) (nomark _)) (w_andC (t_cmp (op_neP hr.units) dr_ne (e_ix (e_call G_is_sure (hr.mono (by decide)) (by rfl) D.g_is_sure D.F_is_sure.kp D.n_is_sure (x_cons (e_name (pv 17)) (x_cons (e_name (pv 18)) (x_cons (e_name (pv 6)) x_nil)))) e_int) e_str (nomark _)) (w_and1 (t_cmp (op_neP hr.units) dr_ne (e_ix (e_call G_is_sure (hr.mono (by decide)) (by rfl) D.g_is_sure D.F_is_sure.kp D.n_is_sure (x_cons (e_name (pv 2)) (x_cons (e_name (pv 18)) (x_cons (e_name (pv 6)) x_nil)))) e_int) e_str (nomark _))))))) (ss_one (s_ret e_bl)) ss_nil)
      (ss_cons (s_set (ps_set (i := 19) sc__law_part1.nd rfl (.inl rfl) (e_call G__law_rows (hr.mono (by decide)) (by rfl) D.g__law_rows D.F__law_rows.kp D.n__law_rows (x_cons (e_name (pv 0)) (x_cons e_int x_nil)))))
      (ss_cons (s_set (ps_set (i := 20) sc__law_part1.nd rfl (.inr rfl) (e_call G__law_take (hr.mono (by decide)) (by rfl) D.g__law_take D.F__law_take.kp D.n__law_take (x_cons (e_name (pv 0)) (x_cons e_int x_nil)))))
      (ss_cons (s_set (ps_set (i := 21) sc__law_part1.nd rfl (.inr rfl) (e_call G_apart (hr.mono (by decide)) (by rfl) D.g_apart D.F_apart.kp D.n_apart (x_cons (e_name (pv 2)) (x_cons (e_name (pv 3)) (x_cons (e_name (pv 19)) (x_cons (e_tup (x_cons e_int x_nil)) (x_cons (e_name (pv 8)) (x_cons (e_name (pv 20)) x_nil)))))))))
      (ss_cons (s_if (t_cmp op_notN dr_notN (e_name (pv 21)) e_non (nomark _)) (ss_one (s_if (t_w (w_orC (t_cmp op_notBl dr_notB (e_call G_takes_apart (hr.mono (by decide)) (by rfl) D.g_takes_apart D.F_takes_apart.kp D.n_takes_apart (x_cons (e_name (pv 2)) (x_cons (e_name (pv 3)) (x_cons (e_name (pv 19)) (x_cons (e_tup (x_cons e_int x_nil)) (x_cons (e_name (pv 8)) (x_cons (e_name (pv 20)) (x_cons (e_name (pv 21)) x_nil)))))))) e_bl (nomark _)) (w_or1 (t_cmp op_gt dr_b (e_callB call_len_seq dc_len (by rfl) D.b_len PySem.boot_len (e_lc (own := [("one", 22)]) rfl sc__law_part1.nd (i_seq (e_ix (e_name (pv 21)) e_int)) (blkOk_by (by kernel_rfl)) (fun _ _ _ _ _ => (g_name (pg_name (i := 22) sc__law_part1.nd rfl (by first | exact Or.inl rfl | exact Or.inr rfl)))) (fun _ _ _ _ _ => (ts_one (t_cmpS (op_inP hr.units) dr_in (e_ix (e_name (pv 22)) (e_name (pv 8))) (e_lc (own := [("two", 23)]) rfl sc__law_part1.nd (i_seq (e_ix (e_name (pv 21)) e_int)) (blkOk_by (by kernel_rfl)) (fun _ _ _ _ _ => (g_name (pg_name (i := 23) sc__law_part1.nd rfl (by first | exact Or.inl rfl | exact Or.inr rfl)))) (fun _ _ _ _ _ => ts_nil) (fun _ _ _ _ _ => (e_ix (e_name (pv 23)) (e_name (pv 20)))))))) (fun _ _ _ _ _ => e_int))) e_int (nomark _))))) (ss_one (s_ret e_bl)) ss_nil)) (ss_one (s_for PassesOwn.never rfl (i_rng1 (by rfl) D.b_range (e_callB2 (call_min2 rfl) dr_min2 (by rfl) D.b_min boot_min (e_name (pv 4)) e_int)) (g_name (pg_name (i := 13) sc__law_part1.nd rfl (.inl rfl))) (ss_cons (s_set (ps_set (i := 22) sc__law_part1.nd rfl (.inr rfl) (e_lc (own := [("line", 24)]) rfl sc__law_part1.nd (i_seq (e_call G_mending_at (hr.mono (by decide)) (by rfl) D.g_mending_at D.F_mending_at.kp D.n_mending_at (x_cons (e_name (pv 2)) (x_cons (e_name (pv 3)) (x_cons (e_name (pv 13)) x_nil))))) (blkOk_by (by kernel_rfl)) (fun _ _ _ _ _ => (g_name (pg_name (i := 24) sc__law_part1.nd rfl (by first | exact Or.inl rfl | exact Or.inr rfl)))) (fun _ _ _ _ _ => ts_nil) (fun _ _ _ _ _ => (e_ix (e_name (pv 24)) (e_name (pv 8)))))))
      (ss_one (s_for PassesOwn.never rfl (i_rng1 (by rfl) D.b_range (e_callB2 (call_min2 rfl) dr_min2 (by rfl) D.b_min boot_min (e_call G_count (hr.mono (by decide)) (by rfl) D.g_count D.F_count.kp D.n_count (x_cons (e_name (pv 19)) (x_cons (e_tup (x_cons e_int x_nil)) x_nil))) e_int)) (g_name (pg_name (i := 25) sc__law_part1.nd rfl (.inl rfl))) (ss_one (s_if (t_cmp (op_eqP hr.units) dr_eq (e_callB call_len_seq dc_len (by rfl) D.b_len PySem.boot_len (e_lc (own := [("line", 24)]) rfl sc__law_part1.nd (i_seq (e_call G_mending_at (hr.mono (by decide)) (by rfl) D.g_mending_at D.F_mending_at.kp D.n_mending_at (x_cons (e_name (pv 19)) (x_cons (e_tup (x_cons e_int x_nil)) (x_cons (e_name (pv 25)) x_nil))))) (blkOk_by (by kernel_rfl)) (fun _ _ _ _ _ => (g_name (pg_name (i := 24) sc__law_part1.nd rfl (by first | exact Or.inl rfl | exact Or.inr rfl)))) (fun _ _ _ _ _ => (ts_one (t_cmpS (op_inP hr.units) dr_in (e_ix (e_name (pv 24)) (e_name (pv 20))) (e_name (pv 22))))) (fun _ _ _ _ _ => e_int))) e_int (nomark _)) (ss_one (s_ret e_bl)) ss_nil))))))))
      (ss_cons (s_set (ps_set (i := 26) sc__law_part1.nd rfl (.inl rfl) (e_call G_apart (hr.mono (by decide)) (by rfl) D.g_apart D.F_apart.kp D.n_apart (x_cons (e_name (pv 19)) (x_cons (e_tup (x_cons e_int x_nil)) (x_cons (e_name (pv 2)) (x_cons (e_name (pv 3)) (x_cons (e_name (pv 20)) (x_cons (e_name (pv 8)) x_nil)))))))))
      (ss_one (s_ret (e_cmp (op_eqP hr.units) dr_eq (e_cmp op_isN dr_isN (e_name (pv 26)) e_non (nomark _)) (e_cmp op_isN dr_isN (e_name (pv 21)) e_non (nomark _)) (nomark _)))))))))))))))))))) (fun oo ds Kc h => ?_)
  · obtain ⟨ns, t, l, s, wd, rows, key, q, kind, c, rfl, rfl, _⟩ := h
    rfl
  · obtain ⟨ns, t, l, s, wd, rows, key, q, kind, c, rfl, rfl, hTp, hw2, hw3, hR, hT, hq, c0, c1, hkind, k⟩ := h
    show aSeq _ _ _ [some (.own (some 0) (.lst (tape ns t l s))), some (.dat (.int (wd : Int))), some (.dat (eR rows)), some (.dat (tI key)), some (.dat (.int (countF rows key))), some (.dat (.tuple ((groupsF rows key).map eR))), some (.dat (eQ q)), some (.dat (kind)), some (.dat (.int c)), none, none, none, none, none, none, none, none, none, none, none, none, none, none, none, none, none, none]
    refine cut1 [some (.own (some 0) (.lst (tape ns t l s))), some (.dat (.int (wd : Int))), some (.dat (eR rows)), some (.dat (tI key)), some (.dat (.int (countF rows key))), some (.dat (.tuple ((groupsF rows key).map eR))), some (.dat (eQ q)), some (.dat (kind)), some (.dat (.int c)), some (.dat (.int 0)), none, none, none, none, none, none, none, none, none, none, none, none, none, none, none, none, none] (fun Kn kn => ?_) ?_
    · simp only [aName_eq, nm_dat, nm_own, dd_dat, dd_own, bb_bool, arg_dat, arg_own, arg_ali, das_nil, das_dat, cont_list, cont_tup, cont_own, cont_ali, contS_own, ownL_own, ownO_own, stor_dat, stor_own, iD_int, ii_int, i1_int, sAddU_int, sAddU_tup, truS_none, truS_bool, truS_int, truS_list, truS_tup, truS_ali, srcOf_list, srcOf_tup, srcOf_ali, Ab.got_some, gZ_nil, gC_cons, gT_tup, onlyDat_dat, notAli_dat, notAli_own, getO_some, fin_none, fin_some, finO_own, callA_nil, callA_dat, callA_ali, argS_none, argS_some, rt_ad, nx_ad, isN_none, isN_tup, notN_none, notN_tup, aNx, aRet, aIf, aSet, aAug, aDrop, aNever, aC, aBin, aBinR, aUn, aTst, aChain, aNot, aAnd, aOr, aIfE, aAndV, aOrV, aNotV, aNil, aCons, aTup, aLst, aCall1, aCallD, aIx, aApp, aExt, aSetIx, aTru, sLen, sAny, sAll, sSum, sList, sTuple, fI, fC, fB, aSeqI, aRng1, aFor, aFrz, gN, aUnp, aLc, aYes, aCall, aRep, aRgT, turn, wipeA, br_true, br_false, List.map_nil, List.map_cons, List.nil_append, List.cons_append, List.replicate, List.getElem?_cons_zero, List.getElem?_cons_succ, List.set_cons_zero, List.set_cons_succ, List.length_cons, List.length_nil, enS_list, enS_tup, aNotT, aEnum, aRev, aAugD, sLt_int, sLt_ints, sRepT_tup, aCall2, sIsB_eq, sNotB_eq, aDnew, aSortD, ownD_own, aSda, aTupD, datAt_dat, sAllD, aSortSetI, isN_int, notN_int, sIn_int, sNotIn_int, sEq_int, sNe_int, sEq_bool, sNe_bool, sEq_str]
      exact kn
    refine cut1 [some (.own (some 0) (.lst (tape ns t l s))), some (.dat (.int (wd : Int))), some (.dat (eR rows)), some (.dat (tI key)), some (.dat (.int (countF rows key))), some (.dat (.tuple ((groupsF rows key).map eR))), some (.dat (eQ q)), some (.dat (kind)), some (.dat (.int c)), some (.dat (.int 0)), some (.dat (.int 0)), none, none, none, none, none, none, none, none, none, none, none, none, none, none, none, none] (fun Kn kn => ?_) ?_
    · simp only [aName_eq, nm_dat, nm_own, dd_dat, dd_own, bb_bool, arg_dat, arg_own, arg_ali, das_nil, das_dat, cont_list, cont_tup, cont_own, cont_ali, contS_own, ownL_own, ownO_own, stor_dat, stor_own, iD_int, ii_int, i1_int, sAddU_int, sAddU_tup, truS_none, truS_bool, truS_int, truS_list, truS_tup, truS_ali, srcOf_list, srcOf_tup, srcOf_ali, Ab.got_some, gZ_nil, gC_cons, gT_tup, onlyDat_dat, notAli_dat, notAli_own, getO_some, fin_none, fin_some, finO_own, callA_nil, callA_dat, callA_ali, argS_none, argS_some, rt_ad, nx_ad, isN_none, isN_tup, notN_none, notN_tup, aNx, aRet, aIf, aSet, aAug, aDrop, aNever, aC, aBin, aBinR, aUn, aTst, aChain, aNot, aAnd, aOr, aIfE, aAndV, aOrV, aNotV, aNil, aCons, aTup, aLst, aCall1, aCallD, aIx, aApp, aExt, aSetIx, aTru, sLen, sAny, sAll, sSum, sList, sTuple, fI, fC, fB, aSeqI, aRng1, aFor, aFrz, gN, aUnp, aLc, aYes, aCall, aRep, aRgT, turn, wipeA, br_true, br_false, List.map_nil, List.map_cons, List.nil_append, List.cons_append, List.replicate, List.getElem?_cons_zero, List.getElem?_cons_succ, List.set_cons_zero, List.set_cons_succ, List.length_cons, List.length_nil, enS_list, enS_tup, aNotT, aEnum, aRev, aAugD, sLt_int, sLt_ints, sRepT_tup, aCall2, sIsB_eq, sNotB_eq, aDnew, aSortD, ownD_own, aSda, aTupD, datAt_dat, sAllD, aSortSetI, isN_int, notN_int, sIn_int, sNotIn_int, sEq_int, sNe_int, sEq_bool, sNe_bool, sEq_str]
      exact kn
    refine cut (fun ρ => ∃ (x11 x12 x14 x15 : Option AV), NoOwn x11 ∧ NoOwn x12 ∧ NoOwn x14 ∧ NoOwn x15 ∧ ρ = [some (.own (some 0) (.lst (tape ns t l s))), some (.dat (.int (wd : Int))), some (.dat (eR rows)), some (.dat (tI key)), some (.dat (.int (countF rows key))), some (.dat (.tuple ((groupsF rows key).map eR))), some (.dat (eQ q)), some (.dat (kind)), some (.dat (.int c)), some (.dat (.int (lowF c wd (groupsF rows key)))), some (.dat (.int (highF c wd (groupsF rows key)))), x11, x12, none, x14, x15, none, none, none, none, none, none, none, none, none, none, none]) (fun Kn kn => ?_) ?_
    · simp only [aName_eq, nm_dat, nm_own, dd_dat, dd_own, bb_bool, arg_dat, arg_own, arg_ali, das_nil, das_dat, cont_list, cont_tup, cont_own, cont_ali, contS_own, ownL_own, ownO_own, stor_dat, stor_own, iD_int, ii_int, i1_int, sAddU_int, sAddU_tup, truS_none, truS_bool, truS_int, truS_list, truS_tup, truS_ali, srcOf_list, srcOf_tup, srcOf_ali, Ab.got_some, gZ_nil, gC_cons, gT_tup, onlyDat_dat, notAli_dat, notAli_own, getO_some, fin_none, fin_some, finO_own, callA_nil, callA_dat, callA_ali, argS_none, argS_some, rt_ad, nx_ad, isN_none, isN_tup, notN_none, notN_tup, aNx, aRet, aIf, aSet, aAug, aDrop, aNever, aC, aBin, aBinR, aUn, aTst, aChain, aNot, aAnd, aOr, aIfE, aAndV, aOrV, aNotV, aNil, aCons, aTup, aLst, aCall1, aCallD, aIx, aApp, aExt, aSetIx, aTru, sLen, sAny, sAll, sSum, sList, sTuple, fI, fC, fB, aSeqI, aRng1, aFor, aFrz, gN, aUnp, aLc, aYes, aCall, aRep, aRgT, turn, wipeA, br_true, br_false, List.map_nil, List.map_cons, List.nil_append, List.cons_append, List.replicate, List.getElem?_cons_zero, List.getElem?_cons_succ, List.set_cons_zero, List.set_cons_succ, List.length_cons, List.length_nil, enS_list, enS_tup, aNotT, aEnum, aRev, aAugD, sLt_int, sLt_ints, sRepT_tup, aCall2, sIsB_eq, sNotB_eq, aDnew, aSortD, ownD_own, aSda, aTupD, datAt_dat, sAllD, aSortSetI, isN_int, notN_int, sIn_int, sNotIn_int, sEq_int, sNe_int, sEq_bool, sNe_bool, sEq_str]
      refine ⟨by decide, by decide, trivial, fun _ => trivial, ?_⟩
      rw [rangeD0]
      refine for_inv (enc := fun (q : Nat) => PyData.int (q : Int)) (fun pre ρ => ∃ (x11 x12 x14 x15 : Option AV), NoOwn x11 ∧ NoOwn x12 ∧ NoOwn x14 ∧ NoOwn x15 ∧ ρ = [some (.own (some 0) (.lst (tape ns t l s))), some (.dat (.int (wd : Int))), some (.dat (eR rows)), some (.dat (tI key)), some (.dat (.int (countF rows key))), some (.dat (.tuple ((groupsF rows key).map eR))), some (.dat (eQ q)), some (.dat (kind)), some (.dat (.int c)), some (.dat (.int ((pre.map fun (v : Nat) => ((nAll (ask wd c (v : Int)) (groupsF rows key) : Nat) : Int)).sum))), some (.dat (.int ((pre.map fun (v : Nat) => ((nAny (ask wd c (v : Int)) (groupsF rows key) : Nat) : Int)).sum))), x11, x12, none, x14, x15, none, none, none, none, none, none, none, none, none, none, none]) ⟨none, none, none, none, trivial, trivial, trivial, trivial, rfl⟩ ?_ ?_
      · rintro pre v post e ρ ⟨x11, x12, x14, x15, n11, n12, n14, n15, rfl⟩ Kn2 kn2
        simp only [aName_eq, nm_dat, nm_own, dd_dat, dd_own, bb_bool, arg_dat, arg_own, arg_ali, das_nil, das_dat, cont_list, cont_tup, cont_own, cont_ali, contS_own, ownL_own, ownO_own, stor_dat, stor_own, iD_int, ii_int, i1_int, sAddU_int, sAddU_tup, truS_none, truS_bool, truS_int, truS_list, truS_tup, truS_ali, srcOf_list, srcOf_tup, srcOf_ali, Ab.got_some, gZ_nil, gC_cons, gT_tup, onlyDat_dat, notAli_dat, notAli_own, getO_some, fin_none, fin_some, finO_own, callA_nil, callA_dat, callA_ali, argS_none, argS_some, rt_ad, nx_ad, isN_none, isN_tup, notN_none, notN_tup, aNx, aRet, aIf, aSet, aAug, aDrop, aNever, aC, aBin, aBinR, aUn, aTst, aChain, aNot, aAnd, aOr, aIfE, aAndV, aOrV, aNotV, aNil, aCons, aTup, aLst, aCall1, aCallD, aIx, aApp, aExt, aSetIx, aTru, sLen, sAny, sAll, sSum, sList, sTuple, fI, fC, fB, aSeqI, aRng1, aFor, aFrz, gN, aUnp, aLc, aYes, aCall, aRep, aRgT, turn, wipeA, br_true, br_false, List.map_nil, List.map_cons, List.nil_append, List.cons_append, List.replicate, List.getElem?_cons_zero, List.getElem?_cons_succ, List.set_cons_zero, List.set_cons_succ, List.length_cons, List.length_nil, enS_list, enS_tup, aNotT, aEnum, aRev, aAugD, sLt_int, sLt_ints, sRepT_tup, aCall2, sIsB_eq, sNotB_eq, aDnew, aSortD, ownD_own, aSda, aTupD, datAt_dat, sAllD, aSortSetI, isN_int, notN_int, sIn_int, sNotIn_int, sEq_int, sNe_int, sEq_bool, sNe_bool, sEq_str, aSeq]
        refine ⟨by omega, by omega, ?_⟩
        rw [rangeD0]
        refine lc_map (enc := fun (q : Nat) => PyData.int (q : Int)) (fun k => oI (if (k : Int) = c then some (v : Int) else none)) trivial (by simp [Ab.freeOf]) (small_len (by simp; omega)) (fun k hk Ka Ks ka => ?_) ?_
        · simp only [aName_eq, nm_dat, nm_own, dd_dat, dd_own, bb_bool, arg_dat, arg_own, arg_ali, das_nil, das_dat, cont_list, cont_tup, cont_own, cont_ali, contS_own, ownL_own, ownO_own, stor_dat, stor_own, iD_int, ii_int, i1_int, sAddU_int, sAddU_tup, truS_none, truS_bool, truS_int, truS_list, truS_tup, truS_ali, srcOf_list, srcOf_tup, srcOf_ali, Ab.got_some, gZ_nil, gC_cons, gT_tup, onlyDat_dat, notAli_dat, notAli_own, getO_some, fin_none, fin_some, finO_own, callA_nil, callA_dat, callA_ali, argS_none, argS_some, rt_ad, nx_ad, isN_none, isN_tup, notN_none, notN_tup, aNx, aRet, aIf, aSet, aAug, aDrop, aNever, aC, aBin, aBinR, aUn, aTst, aChain, aNot, aAnd, aOr, aIfE, aAndV, aOrV, aNotV, aNil, aCons, aTup, aLst, aCall1, aCallD, aIx, aApp, aExt, aSetIx, aTru, sLen, sAny, sAll, sSum, sList, sTuple, fI, fC, fB, aSeqI, aRng1, aFor, aFrz, gN, aUnp, aLc, aYes, aCall, aRep, aRgT, turn, wipeA, br_true, br_false, List.map_nil, List.map_cons, List.nil_append, List.cons_append, List.replicate, List.getElem?_cons_zero, List.getElem?_cons_succ, List.set_cons_zero, List.set_cons_succ, List.length_cons, List.length_nil, enS_list, enS_tup, aNotT, aEnum, aRev, aAugD, sLt_int, sLt_ints, sRepT_tup, aCall2, sIsB_eq, sNotB_eq, aDnew, aSortD, ownD_own, aSda, aTupD, datAt_dat, sAllD, aSortSetI, isN_int, notN_int, sIn_int, sNotIn_int, sEq_int, sNe_int, sEq_bool, sNe_bool, sEq_str, aSeq]
          refine ⟨fun hh => ?_, fun hh => ?_⟩
          · rw [if_pos (of_decide_eq_true hh)] at ka
            exact ka
          · rw [if_neg (of_decide_eq_false hh)] at ka
            exact ka
        · have ea : ((List.range (wd : Int).toNat).map fun (k : Nat) => oI (if (k : Int) = c then some (v : Int) else none)) = (ask wd c (v : Int)).map oI := by
            unfold ask
            rw [List.map_map, Int.toNat_natCast]
            rfl
          rw [ea]
          simp only [aName_eq, nm_dat, nm_own, dd_dat, dd_own, bb_bool, arg_dat, arg_own, arg_ali, das_nil, das_dat, cont_list, cont_tup, cont_own, cont_ali, contS_own, ownL_own, ownO_own, stor_dat, stor_own, iD_int, ii_int, i1_int, sAddU_int, sAddU_tup, truS_none, truS_bool, truS_int, truS_list, truS_tup, truS_ali, srcOf_list, srcOf_tup, srcOf_ali, Ab.got_some, gZ_nil, gC_cons, gT_tup, onlyDat_dat, notAli_dat, notAli_own, getO_some, fin_none, fin_some, finO_own, callA_nil, callA_dat, callA_ali, argS_none, argS_some, rt_ad, nx_ad, isN_none, isN_tup, notN_none, notN_tup, aNx, aRet, aIf, aSet, aAug, aDrop, aNever, aC, aBin, aBinR, aUn, aTst, aChain, aNot, aAnd, aOr, aIfE, aAndV, aOrV, aNotV, aNil, aCons, aTup, aLst, aCall1, aCallD, aIx, aApp, aExt, aSetIx, aTru, sLen, sAny, sAll, sSum, sList, sTuple, fI, fC, fB, aSeqI, aRng1, aFor, aFrz, gN, aUnp, aLc, aYes, aCall, aRep, aRgT, turn, wipeA, br_true, br_false, List.map_nil, List.map_cons, List.nil_append, List.cons_append, List.replicate, List.getElem?_cons_zero, List.getElem?_cons_succ, List.set_cons_zero, List.set_cons_succ, List.length_cons, List.length_nil, enS_list, enS_tup, aNotT, aEnum, aRev, aAugD, sLt_int, sLt_ints, sRepT_tup, aCall2, sIsB_eq, sNotB_eq, aDnew, aSortD, ownD_own, aSda, aTupD, datAt_dat, sAllD, aSortSetI, isN_int, notN_int, sIn_int, sNotIn_int, sEq_int, sNe_int, sEq_bool, sNe_bool, sEq_str, aSeq]
          refine ⟨wd, rows, key, ask wd c (v : Int), rfl, rfl, hT, ask_len, rfl, ?_⟩
          simp only [aName_eq, nm_dat, nm_own, dd_dat, dd_own, bb_bool, arg_dat, arg_own, arg_ali, das_nil, das_dat, cont_list, cont_tup, cont_own, cont_ali, contS_own, ownL_own, ownO_own, stor_dat, stor_own, iD_int, ii_int, i1_int, sAddU_int, sAddU_tup, truS_none, truS_bool, truS_int, truS_list, truS_tup, truS_ali, srcOf_list, srcOf_tup, srcOf_ali, Ab.got_some, gZ_nil, gC_cons, gT_tup, onlyDat_dat, notAli_dat, notAli_own, getO_some, fin_none, fin_some, finO_own, callA_nil, callA_dat, callA_ali, argS_none, argS_some, rt_ad, nx_ad, isN_none, isN_tup, notN_none, notN_tup, aNx, aRet, aIf, aSet, aAug, aDrop, aNever, aC, aBin, aBinR, aUn, aTst, aChain, aNot, aAnd, aOr, aIfE, aAndV, aOrV, aNotV, aNil, aCons, aTup, aLst, aCall1, aCallD, aIx, aApp, aExt, aSetIx, aTru, sLen, sAny, sAll, sSum, sList, sTuple, fI, fC, fB, aSeqI, aRng1, aFor, aFrz, gN, aUnp, aLc, aYes, aCall, aRep, aRgT, turn, wipeA, br_true, br_false, List.map_nil, List.map_cons, List.nil_append, List.cons_append, List.replicate, List.getElem?_cons_zero, List.getElem?_cons_succ, List.set_cons_zero, List.set_cons_succ, List.length_cons, List.length_nil, enS_list, enS_tup, aNotT, aEnum, aRev, aAugD, sLt_int, sLt_ints, sRepT_tup, aCall2, sIsB_eq, sNotB_eq, aDnew, aSortD, ownD_own, aSda, aTupD, datAt_dat, sAllD, aSortSetI, isN_int, notN_int, sIn_int, sNotIn_int, sEq_int, sNe_int, sEq_bool, sNe_bool, sEq_str, aSeq]
          refine ⟨trivial, kn2 _ ⟨some (.dat (.int (v : Int))), some (.dat (eQ (ask wd c (v : Int)))), some (.dat (.int (nAll (ask wd c (v : Int)) (groupsF rows key) : Nat))), some (.dat (.int (nAny (ask wd c (v : Int)) (groupsF rows key) : Nat))), trivial, trivial, trivial, trivial, ?_⟩⟩
          simp only [List.map_append, List.map_cons, List.map_nil, sum_app]
      · rintro ρ ⟨x11, x12, x14, x15, n11, n12, n14, n15, rfl⟩
        exact kn _ ⟨x11, x12, x14, x15, n11, n12, n14, n15, rfl⟩
    rintro ρ ⟨x11, x12, x14, x15, n11, n12, n14, n15, rfl⟩
    have hgl := groups_len hT
    have hgk : ∀ g ∈ groupsF rows key, OkG wd rows g := groups_ok hT
    have colr : ∀ r ∈ rows, 0 ≤ col c r ∧ col c r < 3 := fun r hr => col_rng hR c0 c1 hr
    obtain ⟨z1, z2, z3⟩ := low_high (c := c) (wd := wd) (gs := groupsF rows key) c0 c1 fun g hg => ⟨(hgk g hg).ne, fun r hr => colr r (grp_sub hg hr)⟩
    refine cut1 [some (.own (some 0) (.lst (tape ns t l s))), some (.dat (.int (wd : Int))), some (.dat (eR rows)), some (.dat (tI key)), some (.dat (.int (countF rows key))), some (.dat (.tuple ((groupsF rows key).map eR))), some (.dat (eQ q)), some (.dat (kind)), some (.dat (.int c)), some (.dat (.int (lowF c wd (groupsF rows key)))), some (.dat (.int (highF c wd (groupsF rows key)))), x11, x12, none, x14, x15, none, none, none, none, none, none, none, none, none, none, none] (fun Kn kn => ?_) ?_
    · have b1 : decide (((groupsF rows key).length : Int) < lowF c wd (groupsF rows key)) = false := decide_eq_false (by omega)
      have b2 : decide (highF c wd (groupsF rows key) < ((groupsF rows key).length : Int)) = false := decide_eq_false (by omega)
      simp only [List.length_map, b1, b2, aName_eq, nm_dat, nm_own, dd_dat, dd_own, bb_bool, arg_dat, arg_own, arg_ali, das_nil, das_dat, cont_list, cont_tup, cont_own, cont_ali, contS_own, ownL_own, ownO_own, stor_dat, stor_own, iD_int, ii_int, i1_int, sAddU_int, sAddU_tup, truS_none, truS_bool, truS_int, truS_list, truS_tup, truS_ali, srcOf_list, srcOf_tup, srcOf_ali, Ab.got_some, gZ_nil, gC_cons, gT_tup, onlyDat_dat, notAli_dat, notAli_own, getO_some, fin_none, fin_some, finO_own, callA_nil, callA_dat, callA_ali, argS_none, argS_some, rt_ad, nx_ad, isN_none, isN_tup, notN_none, notN_tup, aNx, aRet, aIf, aSet, aAug, aDrop, aNever, aC, aBin, aBinR, aUn, aTst, aChain, aNot, aAnd, aOr, aIfE, aAndV, aOrV, aNotV, aNil, aCons, aTup, aLst, aCall1, aCallD, aIx, aApp, aExt, aSetIx, aTru, sLen, sAny, sAll, sSum, sList, sTuple, fI, fC, fB, aSeqI, aRng1, aFor, aFrz, gN, aUnp, aLc, aYes, aCall, aRep, aRgT, turn, wipeA, br_true, br_false, List.map_nil, List.map_cons, List.nil_append, List.cons_append, List.replicate, List.getElem?_cons_zero, List.getElem?_cons_succ, List.set_cons_zero, List.set_cons_succ, List.length_cons, List.length_nil, enS_list, enS_tup, aNotT, aEnum, aRev, aAugD, sLt_int, sLt_ints, sRepT_tup, aCall2, sIsB_eq, sNotB_eq, aDnew, aSortD, ownD_own, aSda, aTupD, datAt_dat, sAllD, aSortSetI, isN_int, notN_int, sIn_int, sNotIn_int, sEq_int, sNe_int, sEq_bool, sNe_bool, sEq_str]
      refine ⟨fun hh => ?_, fun _ => kn⟩
      have hk : c ∈ key := of_decide_eq_true hh
      have e3 := z3 fun g hg r hr s hs => grp_col hg hk hr hs
      have b3 : decide (lowF c wd (groupsF rows key) = highF c wd (groupsF rows key)) = true := decide_eq_true e3
      simp only [b3, Bool.not_true, aName_eq, nm_dat, nm_own, dd_dat, dd_own, bb_bool, arg_dat, arg_own, arg_ali, das_nil, das_dat, cont_list, cont_tup, cont_own, cont_ali, contS_own, ownL_own, ownO_own, stor_dat, stor_own, iD_int, ii_int, i1_int, sAddU_int, sAddU_tup, truS_none, truS_bool, truS_int, truS_list, truS_tup, truS_ali, srcOf_list, srcOf_tup, srcOf_ali, Ab.got_some, gZ_nil, gC_cons, gT_tup, onlyDat_dat, notAli_dat, notAli_own, getO_some, fin_none, fin_some, finO_own, callA_nil, callA_dat, callA_ali, argS_none, argS_some, rt_ad, nx_ad, isN_none, isN_tup, notN_none, notN_tup, aNx, aRet, aIf, aSet, aAug, aDrop, aNever, aC, aBin, aBinR, aUn, aTst, aChain, aNot, aAnd, aOr, aIfE, aAndV, aOrV, aNotV, aNil, aCons, aTup, aLst, aCall1, aCallD, aIx, aApp, aExt, aSetIx, aTru, sLen, sAny, sAll, sSum, sList, sTuple, fI, fC, fB, aSeqI, aRng1, aFor, aFrz, gN, aUnp, aLc, aYes, aCall, aRep, aRgT, turn, wipeA, br_true, br_false, List.map_nil, List.map_cons, List.nil_append, List.cons_append, List.replicate, List.getElem?_cons_zero, List.getElem?_cons_succ, List.set_cons_zero, List.set_cons_succ, List.length_cons, List.length_nil, enS_list, enS_tup, aNotT, aEnum, aRev, aAugD, sLt_int, sLt_ints, sRepT_tup, aCall2, sIsB_eq, sNotB_eq, aDnew, aSortD, ownD_own, aSda, aTupD, datAt_dat, sAllD, aSortSetI, isN_int, notN_int, sIn_int, sNotIn_int, sEq_int, sNe_int, sEq_bool, sNe_bool, sEq_str]
      exact kn
    refine cut (fun ρ => ∃ (row : Row) (t l s : Int), row.length = wd ∧ OkTape ns t l s ∧ ρ = [some (.own (some 0) (.lst (tape ns t l s))), some (.dat (.int (wd : Int))), some (.dat (eR rows)), some (.dat (tI key)), some (.dat (.int (countF rows key))), some (.dat (.tuple ((groupsF rows key).map eR))), some (.dat (eQ q)), some (.dat (kind)), some (.dat (.int c)), some (.dat (.int (lowF c wd (groupsF rows key)))), some (.dat (.int (highF c wd (groupsF rows key)))), x11, x12, none, x14, x15, some (.dat (tI row)), none, none, none, none, none, none, none, none, none, none]) (fun Kn kn => ?_) ?_
    · simp only [aName_eq, nm_dat, nm_own, dd_dat, dd_own, bb_bool, arg_dat, arg_own, arg_ali, das_nil, das_dat, cont_list, cont_tup, cont_own, cont_ali, contS_own, ownL_own, ownO_own, stor_dat, stor_own, iD_int, ii_int, i1_int, sAddU_int, sAddU_tup, truS_none, truS_bool, truS_int, truS_list, truS_tup, truS_ali, srcOf_list, srcOf_tup, srcOf_ali, Ab.got_some, gZ_nil, gC_cons, gT_tup, onlyDat_dat, notAli_dat, notAli_own, getO_some, fin_none, fin_some, finO_own, callA_nil, callA_dat, callA_ali, argS_none, argS_some, rt_ad, nx_ad, isN_none, isN_tup, notN_none, notN_tup, aNx, aRet, aIf, aSet, aAug, aDrop, aNever, aC, aBin, aBinR, aUn, aTst, aChain, aNot, aAnd, aOr, aIfE, aAndV, aOrV, aNotV, aNil, aCons, aTup, aLst, aCall1, aCallD, aIx, aApp, aExt, aSetIx, aTru, sLen, sAny, sAll, sSum, sList, sTuple, fI, fC, fB, aSeqI, aRng1, aFor, aFrz, gN, aUnp, aLc, aYes, aCall, aRep, aRgT, turn, wipeA, br_true, br_false, List.map_nil, List.map_cons, List.nil_append, List.cons_append, List.replicate, List.getElem?_cons_zero, List.getElem?_cons_succ, List.set_cons_zero, List.set_cons_succ, List.length_cons, List.length_nil, enS_list, enS_tup, aNotT, aEnum, aRev, aAugD, sLt_int, sLt_ints, sRepT_tup, aCall2, sIsB_eq, sNotB_eq, aDnew, aSortD, ownD_own, aSda, aTupD, datAt_dat, sAllD, aSortSetI, isN_int, notN_int, sIn_int, sNotIn_int, sEq_int, sNe_int, sEq_bool, sNe_bool, sEq_str]
      refine ⟨by omega, by omega, ?_⟩
      rw [rangeD0]
      refine lc_inv (enc := fun (q : Nat) => PyData.int (q : Int)) (fun pre acc ρ => ∃ (row : Row) (t l s : Int), row.length = pre.length ∧ acc = row.map PyData.int ∧ OkTape ns t l s ∧ ρ = [some (.own (some 0) (.lst (tape ns t l s))), some (.dat (.int (wd : Int))), some (.dat (eR rows)), some (.dat (tI key)), some (.dat (.int (countF rows key))), some (.dat (.tuple ((groupsF rows key).map eR))), some (.dat (eQ q)), some (.dat (kind)), some (.dat (.int c)), some (.dat (.int (lowF c wd (groupsF rows key)))), some (.dat (.int (highF c wd (groupsF rows key)))), x11, x12, none, x14, x15, none, none, none, none, none, none, none, none, none, none, none])
        ⟨[], t, l, s, rfl, rfl, hTp, rfl⟩ (small_len (by simp; omega)) (fun pre acc ρ hI => ?_) ?_ ?_
      · obtain ⟨rows, t, l, s, _, _, _, rfl⟩ := hI
        exact ⟨trivial, by simp [Ab.freeOf]⟩
      · rintro pre x post e acc ρ ⟨row, t, l, s, j1, j3, j4, rfl⟩ Ka Ks ka ks
        simp only [aName_eq, nm_dat, nm_own, dd_dat, dd_own, bb_bool, arg_dat, arg_own, arg_ali, das_nil, das_dat, cont_list, cont_tup, cont_own, cont_ali, contS_own, ownL_own, ownO_own, stor_dat, stor_own, iD_int, ii_int, i1_int, sAddU_int, sAddU_tup, truS_none, truS_bool, truS_int, truS_list, truS_tup, truS_ali, srcOf_list, srcOf_tup, srcOf_ali, Ab.got_some, gZ_nil, gC_cons, gT_tup, onlyDat_dat, notAli_dat, notAli_own, getO_some, fin_none, fin_some, finO_own, callA_nil, callA_dat, callA_ali, argS_none, argS_some, rt_ad, nx_ad, isN_none, isN_tup, notN_none, notN_tup, aNx, aRet, aIf, aSet, aAug, aDrop, aNever, aC, aBin, aBinR, aUn, aTst, aChain, aNot, aAnd, aOr, aIfE, aAndV, aOrV, aNotV, aNil, aCons, aTup, aLst, aCall1, aCallD, aIx, aApp, aExt, aSetIx, aTru, sLen, sAny, sAll, sSum, sList, sTuple, fI, fC, fB, aSeqI, aRng1, aFor, aFrz, gN, aUnp, aLc, aYes, aCall, aRep, aRgT, turn, wipeA, br_true, br_false, List.map_nil, List.map_cons, List.nil_append, List.cons_append, List.replicate, List.getElem?_cons_zero, List.getElem?_cons_succ, List.set_cons_zero, List.set_cons_succ, List.length_cons, List.length_nil, enS_list, enS_tup, aNotT, aEnum, aRev, aAugD, sLt_int, sLt_ints, sRepT_tup, aCall2, sIsB_eq, sNotB_eq, aDnew, aSortD, ownD_own, aSda, aTupD, datAt_dat, sAllD, aSortSetI, isN_int, notN_int, sIn_int, sNotIn_int, sEq_int, sNe_int, sEq_bool, sNe_bool, sEq_str]
        refine ⟨ns, t, l, s, 3, rfl, rfl, j4, by decide, by decide, fun r t' l' s' r0 r1 hT' => ?_⟩
        simp only [aName_eq, nm_dat, nm_own, dd_dat, dd_own, bb_bool, arg_dat, arg_own, arg_ali, das_nil, das_dat, cont_list, cont_tup, cont_own, cont_ali, contS_own, ownL_own, ownO_own, stor_dat, stor_own, iD_int, ii_int, i1_int, sAddU_int, sAddU_tup, truS_none, truS_bool, truS_int, truS_list, truS_tup, truS_ali, srcOf_list, srcOf_tup, srcOf_ali, Ab.got_some, gZ_nil, gC_cons, gT_tup, onlyDat_dat, notAli_dat, notAli_own, getO_some, fin_none, fin_some, finO_own, callA_nil, callA_dat, callA_ali, argS_none, argS_some, rt_ad, nx_ad, isN_none, isN_tup, notN_none, notN_tup, aNx, aRet, aIf, aSet, aAug, aDrop, aNever, aC, aBin, aBinR, aUn, aTst, aChain, aNot, aAnd, aOr, aIfE, aAndV, aOrV, aNotV, aNil, aCons, aTup, aLst, aCall1, aCallD, aIx, aApp, aExt, aSetIx, aTru, sLen, sAny, sAll, sSum, sList, sTuple, fI, fC, fB, aSeqI, aRng1, aFor, aFrz, gN, aUnp, aLc, aYes, aCall, aRep, aRgT, turn, wipeA, br_true, br_false, List.map_nil, List.map_cons, List.nil_append, List.cons_append, List.replicate, List.getElem?_cons_zero, List.getElem?_cons_succ, List.set_cons_zero, List.set_cons_succ, List.length_cons, List.length_nil, enS_list, enS_tup, aNotT, aEnum, aRev, aAugD, sLt_int, sLt_ints, sRepT_tup, aCall2, sIsB_eq, sNotB_eq, aDnew, aSortD, ownD_own, aSda, aTupD, datAt_dat, sAllD, aSortSetI, isN_int, notN_int, sIn_int, sNotIn_int, sEq_int, sNe_int, sEq_bool, sNe_bool, sEq_str]
        exact ka _ _ ⟨row ++ [r], t', l', s', by simp [j1], by rw [j3, List.map_append]; rfl, hT', rfl⟩
      · rintro acc ρ ⟨row, t, l, s, j1, rfl, j4, rfl⟩
        rw [List.length_range] at j1
        simp only [aName_eq, nm_dat, nm_own, dd_dat, dd_own, bb_bool, arg_dat, arg_own, arg_ali, das_nil, das_dat, cont_list, cont_tup, cont_own, cont_ali, contS_own, ownL_own, ownO_own, stor_dat, stor_own, iD_int, ii_int, i1_int, sAddU_int, sAddU_tup, truS_none, truS_bool, truS_int, truS_list, truS_tup, truS_ali, srcOf_list, srcOf_tup, srcOf_ali, Ab.got_some, gZ_nil, gC_cons, gT_tup, onlyDat_dat, notAli_dat, notAli_own, getO_some, fin_none, fin_some, finO_own, callA_nil, callA_dat, callA_ali, argS_none, argS_some, rt_ad, nx_ad, isN_none, isN_tup, notN_none, notN_tup, aNx, aRet, aIf, aSet, aAug, aDrop, aNever, aC, aBin, aBinR, aUn, aTst, aChain, aNot, aAnd, aOr, aIfE, aAndV, aOrV, aNotV, aNil, aCons, aTup, aLst, aCall1, aCallD, aIx, aApp, aExt, aSetIx, aTru, sLen, sAny, sAll, sSum, sList, sTuple, fI, fC, fB, aSeqI, aRng1, aFor, aFrz, gN, aUnp, aLc, aYes, aCall, aRep, aRgT, turn, wipeA, br_true, br_false, List.map_nil, List.map_cons, List.nil_append, List.cons_append, List.replicate, List.getElem?_cons_zero, List.getElem?_cons_succ, List.set_cons_zero, List.set_cons_succ, List.length_cons, List.length_nil, enS_list, enS_tup, aNotT, aEnum, aRev, aAugD, sLt_int, sLt_ints, sRepT_tup, aCall2, sIsB_eq, sNotB_eq, aDnew, aSortD, ownD_own, aSda, aTupD, datAt_dat, sAllD, aSortSetI, isN_int, notN_int, sIn_int, sNotIn_int, sEq_int, sNe_int, sEq_bool, sNe_bool, sEq_str]
        exact kn _ ⟨row, t, l, s, by omega, j4, rfl⟩
    rintro ρ ⟨row, t, l, s, hrow, hTp, rfl⟩
    refine cut (fun ρ => ∃ more : List Row, (∀ r, r ∈ more ↔ r ∈ rows ++ [row]) ∧ more.Nodup ∧ Srt more ∧ ρ = [some (.own (some 0) (.lst (tape ns t l s))), some (.dat (.int (wd : Int))), some (.dat (eR rows)), some (.dat (tI key)), some (.dat (.int (countF rows key))), some (.dat (.tuple ((groupsF rows key).map eR))), some (.dat (eQ q)), some (.dat (kind)), some (.dat (.int c)), some (.dat (.int (lowF c wd (groupsF rows key)))), some (.dat (.int (highF c wd (groupsF rows key)))), x11, x12, none, x14, x15, some (.dat (tI row)), some (.dat (eR more)), none, none, none, none, none, none, none, none, none]) (fun Kn kn => ?_) ?_
    · simp only [aName_eq, nm_dat, nm_own, dd_dat, dd_own, bb_bool, arg_dat, arg_own, arg_ali, das_nil, das_dat, cont_list, cont_tup, cont_own, cont_ali, contS_own, ownL_own, ownO_own, stor_dat, stor_own, iD_int, ii_int, i1_int, sAddU_int, sAddU_tup, truS_none, truS_bool, truS_int, truS_list, truS_tup, truS_ali, srcOf_list, srcOf_tup, srcOf_ali, Ab.got_some, gZ_nil, gC_cons, gT_tup, onlyDat_dat, notAli_dat, notAli_own, getO_some, fin_none, fin_some, finO_own, callA_nil, callA_dat, callA_ali, argS_none, argS_some, rt_ad, nx_ad, isN_none, isN_tup, notN_none, notN_tup, aNx, aRet, aIf, aSet, aAug, aDrop, aNever, aC, aBin, aBinR, aUn, aTst, aChain, aNot, aAnd, aOr, aIfE, aAndV, aOrV, aNotV, aNil, aCons, aTup, aLst, aCall1, aCallD, aIx, aApp, aExt, aSetIx, aTru, sLen, sAny, sAll, sSum, sList, sTuple, fI, fC, fB, aSeqI, aRng1, aFor, aFrz, gN, aUnp, aLc, aYes, aCall, aRep, aRgT, turn, wipeA, br_true, br_false, List.map_nil, List.map_cons, List.nil_append, List.cons_append, List.replicate, List.getElem?_cons_zero, List.getElem?_cons_succ, List.set_cons_zero, List.set_cons_succ, List.length_cons, List.length_nil, enS_list, enS_tup, aNotT, aEnum, aRev, aAugD, sLt_int, sLt_ints, sRepT_tup, aCall2, sIsB_eq, sNotB_eq, aDnew, aSortD, ownD_own, aSda, aTupD, datAt_dat, sAllD, aSortSetI, isN_int, notN_int, sIn_int, sNotIn_int, sEq_int, sNe_int, sEq_bool, sNe_bool, sEq_str]
      unfold aSortSet
      have hrl := hR.few
      simp only [List.length_map, aName_eq, nm_dat, nm_own, dd_dat, dd_own, bb_bool, arg_dat, arg_own, arg_ali, das_nil, das_dat, cont_list, cont_tup, cont_own, cont_ali, contS_own, ownL_own, ownO_own, stor_dat, stor_own, iD_int, ii_int, i1_int, sAddU_int, sAddU_tup, truS_none, truS_bool, truS_int, truS_list, truS_tup, truS_ali, srcOf_list, srcOf_tup, srcOf_ali, Ab.got_some, gZ_nil, gC_cons, gT_tup, onlyDat_dat, notAli_dat, notAli_own, getO_some, fin_none, fin_some, finO_own, callA_nil, callA_dat, callA_ali, argS_none, argS_some, rt_ad, nx_ad, isN_none, isN_tup, notN_none, notN_tup, aNx, aRet, aIf, aSet, aAug, aDrop, aNever, aC, aBin, aBinR, aUn, aTst, aChain, aNot, aAnd, aOr, aIfE, aAndV, aOrV, aNotV, aNil, aCons, aTup, aLst, aCall1, aCallD, aIx, aApp, aExt, aSetIx, aTru, sLen, sAny, sAll, sSum, sList, sTuple, fI, fC, fB, aSeqI, aRng1, aFor, aFrz, gN, aUnp, aLc, aYes, aCall, aRep, aRgT, turn, wipeA, br_true, br_false, List.map_nil, List.map_cons, List.nil_append, List.cons_append, List.replicate, List.getElem?_cons_zero, List.getElem?_cons_succ, List.set_cons_zero, List.set_cons_succ, List.length_cons, List.length_nil, enS_list, enS_tup, aNotT, aEnum, aRev, aAugD, sLt_int, sLt_ints, sRepT_tup, aCall2, sIsB_eq, sNotB_eq, aDnew, aSortD, ownD_own, aSda, aTupD, datAt_dat, sAllD, aSortSetI, isN_int, notN_int, sIn_int, sNotIn_int, sEq_int, sNe_int, sEq_bool, sNe_bool, sEq_str]
      refine ⟨small_le (by decide), small_le (by omega), rows ++ [row], by rw [List.map_append]; rfl, by rw [List.length_append]; simp only [List.length_cons, List.length_nil]; omega, fun r hr e => ?_, fun rows1 nd me so => kn _ ⟨rows1, me, nd, so, rfl⟩⟩
      have : r.length = wd := by
        rcases List.mem_append.mp hr with hr | hr
        · exact hR.wid r hr
        · rw [List.mem_singleton.mp hr]
          exact hrow
      rw [e] at this
      simp at this
      omega
    rintro ρ ⟨more, me, mnd, mso, rfl⟩
    have hmw : ∀ r ∈ more, r.length = wd := fun r hr => by
      rcases List.mem_append.mp ((me r).mp hr) with hr | hr
      · exact hR.wid r hr
      · rw [List.mem_singleton.mp hr]
        exact hrow
    have hml : more.length ≤ 8 := by
      have := mnd.length_le_of_subset fun x hx => (me x).mp hx
      rw [List.length_append] at this
      have := hR.few
      simp only [List.length_cons, List.length_nil] at *
      omega
    have hrm : ∀ r ∈ rows, r ∈ more := fun r hr => (me r).mpr (List.mem_append_left _ hr)
    have hmt : ∀ key : Row, key.Pairwise (· < ·) → (∀ x ∈ key, 0 ≤ x ∧ x < (wd : Int)) → OkTab wd more key := fun key k1 k2 =>
      ⟨List.ne_nil_of_mem ((me row).mpr (List.mem_append_right _ List.mem_cons_self)), by omega, by omega, hmw, srt_lt mso mnd, k1, k2⟩
    have hTm := hmt key hT.kasc hT.krng
    refine cut1 [some (.own (some 0) (.lst (tape ns t l s))), some (.dat (.int (wd : Int))), some (.dat (eR rows)), some (.dat (tI key)), some (.dat (.int (countF rows key))), some (.dat (.tuple ((groupsF rows key).map eR))), some (.dat (eQ q)), some (.dat (kind)), some (.dat (.int c)), some (.dat (.int (lowF c wd (groupsF rows key)))), some (.dat (.int (highF c wd (groupsF rows key)))), x11, x12, none, x14, x15, some (.dat (tI row)), some (.dat (eR more)), none, none, none, none, none, none, none, none, none] (fun Kn kn => ?_) ?_
    · have b1 : decide (countF more key < countF rows key) = false := decide_eq_false (by
        have := count_more (key := key) (asc_nodup hR.asc) hrm
        omega)
      simp only [aName_eq, nm_dat, nm_own, dd_dat, dd_own, bb_bool, arg_dat, arg_own, arg_ali, das_nil, das_dat, cont_list, cont_tup, cont_own, cont_ali, contS_own, ownL_own, ownO_own, stor_dat, stor_own, iD_int, ii_int, i1_int, sAddU_int, sAddU_tup, truS_none, truS_bool, truS_int, truS_list, truS_tup, truS_ali, srcOf_list, srcOf_tup, srcOf_ali, Ab.got_some, gZ_nil, gC_cons, gT_tup, onlyDat_dat, notAli_dat, notAli_own, getO_some, fin_none, fin_some, finO_own, callA_nil, callA_dat, callA_ali, argS_none, argS_some, rt_ad, nx_ad, isN_none, isN_tup, notN_none, notN_tup, aNx, aRet, aIf, aSet, aAug, aDrop, aNever, aC, aBin, aBinR, aUn, aTst, aChain, aNot, aAnd, aOr, aIfE, aAndV, aOrV, aNotV, aNil, aCons, aTup, aLst, aCall1, aCallD, aIx, aApp, aExt, aSetIx, aTru, sLen, sAny, sAll, sSum, sList, sTuple, fI, fC, fB, aSeqI, aRng1, aFor, aFrz, gN, aUnp, aLc, aYes, aCall, aRep, aRgT, turn, wipeA, br_true, br_false, List.map_nil, List.map_cons, List.nil_append, List.cons_append, List.replicate, List.getElem?_cons_zero, List.getElem?_cons_succ, List.set_cons_zero, List.set_cons_succ, List.length_cons, List.length_nil, enS_list, enS_tup, aNotT, aEnum, aRev, aAugD, sLt_int, sLt_ints, sRepT_tup, aCall2, sIsB_eq, sNotB_eq, aDnew, aSortD, ownD_own, aSda, aTupD, datAt_dat, sAllD, aSortSetI, isN_int, notN_int, sIn_int, sNotIn_int, sEq_int, sNe_int, sEq_bool, sNe_bool, sEq_str]
      refine ⟨wd, more, key, rfl, rfl, hTm, rfl, ?_⟩
      simp only [b1, aName_eq, nm_dat, nm_own, dd_dat, dd_own, bb_bool, arg_dat, arg_own, arg_ali, das_nil, das_dat, cont_list, cont_tup, cont_own, cont_ali, contS_own, ownL_own, ownO_own, stor_dat, stor_own, iD_int, ii_int, i1_int, sAddU_int, sAddU_tup, truS_none, truS_bool, truS_int, truS_list, truS_tup, truS_ali, srcOf_list, srcOf_tup, srcOf_ali, Ab.got_some, gZ_nil, gC_cons, gT_tup, onlyDat_dat, notAli_dat, notAli_own, getO_some, fin_none, fin_some, finO_own, callA_nil, callA_dat, callA_ali, argS_none, argS_some, rt_ad, nx_ad, isN_none, isN_tup, notN_none, notN_tup, aNx, aRet, aIf, aSet, aAug, aDrop, aNever, aC, aBin, aBinR, aUn, aTst, aChain, aNot, aAnd, aOr, aIfE, aAndV, aOrV, aNotV, aNil, aCons, aTup, aLst, aCall1, aCallD, aIx, aApp, aExt, aSetIx, aTru, sLen, sAny, sAll, sSum, sList, sTuple, fI, fC, fB, aSeqI, aRng1, aFor, aFrz, gN, aUnp, aLc, aYes, aCall, aRep, aRgT, turn, wipeA, br_true, br_false, List.map_nil, List.map_cons, List.nil_append, List.cons_append, List.replicate, List.getElem?_cons_zero, List.getElem?_cons_succ, List.set_cons_zero, List.set_cons_succ, List.length_cons, List.length_nil, enS_list, enS_tup, aNotT, aEnum, aRev, aAugD, sLt_int, sLt_ints, sRepT_tup, aCall2, sIsB_eq, sNotB_eq, aDnew, aSortD, ownD_own, aSda, aTupD, datAt_dat, sAllD, aSortSetI, isN_int, notN_int, sIn_int, sNotIn_int, sEq_int, sNe_int, sEq_bool, sNe_bool, sEq_str]
      exact kn
    refine cut (fun ρ => ∃ (wide : Row) (t l s : Int), wide.Pairwise (· < ·) ∧ (∀ x ∈ wide, 0 ≤ x ∧ x < (wd : Int)) ∧ (∀ x ∈ key, x ∈ wide) ∧ OkTape ns t l s ∧ ρ = [some (.own (some 0) (.lst (tape ns t l s))), some (.dat (.int (wd : Int))), some (.dat (eR rows)), some (.dat (tI key)), some (.dat (.int (countF rows key))), some (.dat (.tuple ((groupsF rows key).map eR))), some (.dat (eQ q)), some (.dat (kind)), some (.dat (.int c)), some (.dat (.int (lowF c wd (groupsF rows key)))), some (.dat (.int (highF c wd (groupsF rows key)))), x11, x12, none, x14, x15, some (.dat (tI row)), some (.dat (eR more)), some (.dat (tI wide)), none, none, none, none, none, none, none, none]) (fun Kn kn => ?_) ?_
    · simp only [aName_eq, nm_dat, nm_own, dd_dat, dd_own, bb_bool, arg_dat, arg_own, arg_ali, das_nil, das_dat, cont_list, cont_tup, cont_own, cont_ali, contS_own, ownL_own, ownO_own, stor_dat, stor_own, iD_int, ii_int, i1_int, sAddU_int, sAddU_tup, truS_none, truS_bool, truS_int, truS_list, truS_tup, truS_ali, srcOf_list, srcOf_tup, srcOf_ali, Ab.got_some, gZ_nil, gC_cons, gT_tup, onlyDat_dat, notAli_dat, notAli_own, getO_some, fin_none, fin_some, finO_own, callA_nil, callA_dat, callA_ali, argS_none, argS_some, rt_ad, nx_ad, isN_none, isN_tup, notN_none, notN_tup, aNx, aRet, aIf, aSet, aAug, aDrop, aNever, aC, aBin, aBinR, aUn, aTst, aChain, aNot, aAnd, aOr, aIfE, aAndV, aOrV, aNotV, aNil, aCons, aTup, aLst, aCall1, aCallD, aIx, aApp, aExt, aSetIx, aTru, sLen, sAny, sAll, sSum, sList, sTuple, fI, fC, fB, aSeqI, aRng1, aFor, aFrz, gN, aUnp, aLc, aYes, aCall, aRep, aRgT, turn, wipeA, br_true, br_false, List.map_nil, List.map_cons, List.nil_append, List.cons_append, List.replicate, List.getElem?_cons_zero, List.getElem?_cons_succ, List.set_cons_zero, List.set_cons_succ, List.length_cons, List.length_nil, enS_list, enS_tup, aNotT, aEnum, aRev, aAugD, sLt_int, sLt_ints, sRepT_tup, aCall2, sIsB_eq, sNotB_eq, aDnew, aSortD, ownD_own, aSda, aTupD, datAt_dat, sAllD, aSortSetI, isN_int, notN_int, sIn_int, sNotIn_int, sEq_int, sNe_int, sEq_bool, sNe_bool, sEq_str]
      refine ⟨ns, t, l, s, wd, rfl, rfl, hTp, by omega, by omega, fun r t' l' s' r0 r1 hT' => ?_⟩
      have hkl : key.length ≤ 3 := by
        have := asc_few hT.kasc hT.krng
        omega
      simp only [List.length_map, aName_eq, nm_dat, nm_own, dd_dat, dd_own, bb_bool, arg_dat, arg_own, arg_ali, das_nil, das_dat, cont_list, cont_tup, cont_own, cont_ali, contS_own, ownL_own, ownO_own, stor_dat, stor_own, iD_int, ii_int, i1_int, sAddU_int, sAddU_tup, truS_none, truS_bool, truS_int, truS_list, truS_tup, truS_ali, srcOf_list, srcOf_tup, srcOf_ali, Ab.got_some, gZ_nil, gC_cons, gT_tup, onlyDat_dat, notAli_dat, notAli_own, getO_some, fin_none, fin_some, finO_own, callA_nil, callA_dat, callA_ali, argS_none, argS_some, rt_ad, nx_ad, isN_none, isN_tup, notN_none, notN_tup, aNx, aRet, aIf, aSet, aAug, aDrop, aNever, aC, aBin, aBinR, aUn, aTst, aChain, aNot, aAnd, aOr, aIfE, aAndV, aOrV, aNotV, aNil, aCons, aTup, aLst, aCall1, aCallD, aIx, aApp, aExt, aSetIx, aTru, sLen, sAny, sAll, sSum, sList, sTuple, fI, fC, fB, aSeqI, aRng1, aFor, aFrz, gN, aUnp, aLc, aYes, aCall, aRep, aRgT, turn, wipeA, br_true, br_false, List.map_nil, List.map_cons, List.nil_append, List.cons_append, List.replicate, List.getElem?_cons_zero, List.getElem?_cons_succ, List.set_cons_zero, List.set_cons_succ, List.length_cons, List.length_nil, enS_list, enS_tup, aNotT, aEnum, aRev, aAugD, sLt_int, sLt_ints, sRepT_tup, aCall2, sIsB_eq, sNotB_eq, aDnew, aSortD, ownD_own, aSda, aTupD, datAt_dat, sAllD, aSortSetI, isN_int, notN_int, sIn_int, sNotIn_int, sEq_int, sNe_int, sEq_bool, sNe_bool, sEq_str]
      refine ⟨small_le (by decide), small_le (by omega), trivial, key ++ [r], by rw [List.map_append]; rfl, by rw [List.length_append]; simp only [List.length_cons, List.length_nil]; omega, fun ns1 so me => kn _ ⟨ns1, t', l', s', so, fun x hx => ?_, fun x hx => (me x).mpr (List.mem_append_left _ hx), hT', rfl⟩⟩
      rcases List.mem_append.mp ((me x).mp hx) with hx | hx
      · exact hT.krng x hx
      · rw [List.mem_singleton.mp hx]
        exact ⟨r0, r1⟩
    rintro ρ ⟨wide, t, l, s, was, wrng, wkey, hTp, rfl⟩
    have hTw : OkTab wd rows wide := hR.tab hw3 was wrng
    have hTmw := hmt wide was wrng
    have hTall : OkTab wd rows ((List.range wd).map fun (k : Nat) => (k : Int)) := hR.tab hw3 (range_asc wd) (range_rng wd)
    have hTno : OkTab wd rows [] := hR.tab hw3 .nil (fun _ z => nomatch z)
    refine cut1 [some (.own (some 0) (.lst (tape ns t l s))), some (.dat (.int (wd : Int))), some (.dat (eR rows)), some (.dat (tI key)), some (.dat (.int (countF rows key))), some (.dat (.tuple ((groupsF rows key).map eR))), some (.dat (eQ q)), some (.dat (kind)), some (.dat (.int c)), some (.dat (.int (lowF c wd (groupsF rows key)))), some (.dat (.int (highF c wd (groupsF rows key)))), x11, x12, none, x14, x15, some (.dat (tI row)), some (.dat (eR more)), some (.dat (tI wide)), none, none, none, none, none, none, none, none] (fun Kn kn => ?_) ?_
    · have b1 : decide (((groupsF rows wide).length : Int) < ((groupsF rows key).length : Int)) = false := decide_eq_false (by
        have := wide_groups (rows := rows) wkey
        omega)
      simp only [aName_eq, nm_dat, nm_own, dd_dat, dd_own, bb_bool, arg_dat, arg_own, arg_ali, das_nil, das_dat, cont_list, cont_tup, cont_own, cont_ali, contS_own, ownL_own, ownO_own, stor_dat, stor_own, iD_int, ii_int, i1_int, sAddU_int, sAddU_tup, truS_none, truS_bool, truS_int, truS_list, truS_tup, truS_ali, srcOf_list, srcOf_tup, srcOf_ali, Ab.got_some, gZ_nil, gC_cons, gT_tup, onlyDat_dat, notAli_dat, notAli_own, getO_some, fin_none, fin_some, finO_own, callA_nil, callA_dat, callA_ali, argS_none, argS_some, rt_ad, nx_ad, isN_none, isN_tup, notN_none, notN_tup, aNx, aRet, aIf, aSet, aAug, aDrop, aNever, aC, aBin, aBinR, aUn, aTst, aChain, aNot, aAnd, aOr, aIfE, aAndV, aOrV, aNotV, aNil, aCons, aTup, aLst, aCall1, aCallD, aIx, aApp, aExt, aSetIx, aTru, sLen, sAny, sAll, sSum, sList, sTuple, fI, fC, fB, aSeqI, aRng1, aFor, aFrz, gN, aUnp, aLc, aYes, aCall, aRep, aRgT, turn, wipeA, br_true, br_false, List.map_nil, List.map_cons, List.nil_append, List.cons_append, List.replicate, List.getElem?_cons_zero, List.getElem?_cons_succ, List.set_cons_zero, List.set_cons_succ, List.length_cons, List.length_nil, enS_list, enS_tup, aNotT, aEnum, aRev, aAugD, sLt_int, sLt_ints, sRepT_tup, aCall2, sIsB_eq, sNotB_eq, aDnew, aSortD, ownD_own, aSda, aTupD, datAt_dat, sAllD, aSortSetI, isN_int, notN_int, sIn_int, sNotIn_int, sEq_int, sNe_int, sEq_bool, sNe_bool, sEq_str]
      refine ⟨wd, rows, wide, rfl, rfl, hTw, rfl, ?_⟩
      simp only [List.length_map, b1, aName_eq, nm_dat, nm_own, dd_dat, dd_own, bb_bool, arg_dat, arg_own, arg_ali, das_nil, das_dat, cont_list, cont_tup, cont_own, cont_ali, contS_own, ownL_own, ownO_own, stor_dat, stor_own, iD_int, ii_int, i1_int, sAddU_int, sAddU_tup, truS_none, truS_bool, truS_int, truS_list, truS_tup, truS_ali, srcOf_list, srcOf_tup, srcOf_ali, Ab.got_some, gZ_nil, gC_cons, gT_tup, onlyDat_dat, notAli_dat, notAli_own, getO_some, fin_none, fin_some, finO_own, callA_nil, callA_dat, callA_ali, argS_none, argS_some, rt_ad, nx_ad, isN_none, isN_tup, notN_none, notN_tup, aNx, aRet, aIf, aSet, aAug, aDrop, aNever, aC, aBin, aBinR, aUn, aTst, aChain, aNot, aAnd, aOr, aIfE, aAndV, aOrV, aNotV, aNil, aCons, aTup, aLst, aCall1, aCallD, aIx, aApp, aExt, aSetIx, aTru, sLen, sAny, sAll, sSum, sList, sTuple, fI, fC, fB, aSeqI, aRng1, aFor, aFrz, gN, aUnp, aLc, aYes, aCall, aRep, aRgT, turn, wipeA, br_true, br_false, List.map_nil, List.map_cons, List.nil_append, List.cons_append, List.replicate, List.getElem?_cons_zero, List.getElem?_cons_succ, List.set_cons_zero, List.set_cons_succ, List.length_cons, List.length_nil, enS_list, enS_tup, aNotT, aEnum, aRev, aAugD, sLt_int, sLt_ints, sRepT_tup, aCall2, sIsB_eq, sNotB_eq, aDnew, aSortD, ownD_own, aSda, aTupD, datAt_dat, sAllD, aSortSetI, isN_int, notN_int, sIn_int, sNotIn_int, sEq_int, sNe_int, sEq_bool, sNe_bool, sEq_str]
      refine ⟨by omega, by omega, ?_⟩
      rw [range_tI]
      refine ⟨wd, rows, (List.range wd).map fun (k : Nat) => (k : Int), rfl, rfl, hTall, rfl, ?_⟩
      rw [count_all_cols (asc_nodup hR.asc) hR.wid]
      simp only [decide_true, Bool.not_true, aName_eq, nm_dat, nm_own, dd_dat, dd_own, bb_bool, arg_dat, arg_own, arg_ali, das_nil, das_dat, cont_list, cont_tup, cont_own, cont_ali, contS_own, ownL_own, ownO_own, stor_dat, stor_own, iD_int, ii_int, i1_int, sAddU_int, sAddU_tup, truS_none, truS_bool, truS_int, truS_list, truS_tup, truS_ali, srcOf_list, srcOf_tup, srcOf_ali, Ab.got_some, gZ_nil, gC_cons, gT_tup, onlyDat_dat, notAli_dat, notAli_own, getO_some, fin_none, fin_some, finO_own, callA_nil, callA_dat, callA_ali, argS_none, argS_some, rt_ad, nx_ad, isN_none, isN_tup, notN_none, notN_tup, aNx, aRet, aIf, aSet, aAug, aDrop, aNever, aC, aBin, aBinR, aUn, aTst, aChain, aNot, aAnd, aOr, aIfE, aAndV, aOrV, aNotV, aNil, aCons, aTup, aLst, aCall1, aCallD, aIx, aApp, aExt, aSetIx, aTru, sLen, sAny, sAll, sSum, sList, sTuple, fI, fC, fB, aSeqI, aRng1, aFor, aFrz, gN, aUnp, aLc, aYes, aCall, aRep, aRgT, turn, wipeA, br_true, br_false, List.map_nil, List.map_cons, List.nil_append, List.cons_append, List.replicate, List.getElem?_cons_zero, List.getElem?_cons_succ, List.set_cons_zero, List.set_cons_succ, List.length_cons, List.length_nil, enS_list, enS_tup, aNotT, aEnum, aRev, aAugD, sLt_int, sLt_ints, sRepT_tup, aCall2, sIsB_eq, sNotB_eq, aDnew, aSortD, ownD_own, aSda, aTupD, datAt_dat, sAllD, aSortSetI, isN_int, notN_int, sIn_int, sNotIn_int, sEq_int, sNe_int, sEq_bool, sNe_bool, sEq_str]
      refine ⟨small_le (by decide), wd, rows, [], rfl, rfl, hTno, rfl, ?_⟩
      rw [count_no_cols hR.ne]
      simp only [decide_true, Bool.not_true, List.length_map, aName_eq, nm_dat, nm_own, dd_dat, dd_own, bb_bool, arg_dat, arg_own, arg_ali, das_nil, das_dat, cont_list, cont_tup, cont_own, cont_ali, contS_own, ownL_own, ownO_own, stor_dat, stor_own, iD_int, ii_int, i1_int, sAddU_int, sAddU_tup, truS_none, truS_bool, truS_int, truS_list, truS_tup, truS_ali, srcOf_list, srcOf_tup, srcOf_ali, Ab.got_some, gZ_nil, gC_cons, gT_tup, onlyDat_dat, notAli_dat, notAli_own, getO_some, fin_none, fin_some, finO_own, callA_nil, callA_dat, callA_ali, argS_none, argS_some, rt_ad, nx_ad, isN_none, isN_tup, notN_none, notN_tup, aNx, aRet, aIf, aSet, aAug, aDrop, aNever, aC, aBin, aBinR, aUn, aTst, aChain, aNot, aAnd, aOr, aIfE, aAndV, aOrV, aNotV, aNil, aCons, aTup, aLst, aCall1, aCallD, aIx, aApp, aExt, aSetIx, aTru, sLen, sAny, sAll, sSum, sList, sTuple, fI, fC, fB, aSeqI, aRng1, aFor, aFrz, gN, aUnp, aLc, aYes, aCall, aRep, aRgT, turn, wipeA, br_true, br_false, List.map_nil, List.map_cons, List.nil_append, List.cons_append, List.replicate, List.getElem?_cons_zero, List.getElem?_cons_succ, List.set_cons_zero, List.set_cons_succ, List.length_cons, List.length_nil, enS_list, enS_tup, aNotT, aEnum, aRev, aAugD, sLt_int, sLt_ints, sRepT_tup, aCall2, sIsB_eq, sNotB_eq, aDnew, aSortD, ownD_own, aSda, aTupD, datAt_dat, sAllD, aSortSetI, isN_int, notN_int, sIn_int, sNotIn_int, sEq_int, sNe_int, sEq_bool, sNe_bool, sEq_str]
      exact kn
    refine cut1 [some (.own (some 0) (.lst (tape ns t l s))), some (.dat (.int (wd : Int))), some (.dat (eR rows)), some (.dat (tI key)), some (.dat (.int (countF rows key))), some (.dat (.tuple ((groupsF rows key).map eR))), some (.dat (eQ q)), some (.dat (kind)), some (.dat (.int c)), some (.dat (.int (lowF c wd (groupsF rows key)))), some (.dat (.int (highF c wd (groupsF rows key)))), x11, x12, none, x14, x15, some (.dat (tI row)), some (.dat (eR more)), some (.dat (tI wide)), none, none, none, none, none, none, none, none] (fun Kn kn => ?_) ?_
    · rcases hkind with ⟨rfl, hs⟩ | ⟨rfl, hs⟩
      · have e1 : decide (Str.ofString "sure" = Str.ofString "sure") = true := decide_eq_true rfl
        simp only [sv, e1, aName_eq, nm_dat, nm_own, dd_dat, dd_own, bb_bool, arg_dat, arg_own, arg_ali, das_nil, das_dat, cont_list, cont_tup, cont_own, cont_ali, contS_own, ownL_own, ownO_own, stor_dat, stor_own, iD_int, ii_int, i1_int, sAddU_int, sAddU_tup, truS_none, truS_bool, truS_int, truS_list, truS_tup, truS_ali, srcOf_list, srcOf_tup, srcOf_ali, Ab.got_some, gZ_nil, gC_cons, gT_tup, onlyDat_dat, notAli_dat, notAli_own, getO_some, fin_none, fin_some, finO_own, callA_nil, callA_dat, callA_ali, argS_none, argS_some, rt_ad, nx_ad, isN_none, isN_tup, notN_none, notN_tup, aNx, aRet, aIf, aSet, aAug, aDrop, aNever, aC, aBin, aBinR, aUn, aTst, aChain, aNot, aAnd, aOr, aIfE, aAndV, aOrV, aNotV, aNil, aCons, aTup, aLst, aCall1, aCallD, aIx, aApp, aExt, aSetIx, aTru, sLen, sAny, sAll, sSum, sList, sTuple, fI, fC, fB, aSeqI, aRng1, aFor, aFrz, gN, aUnp, aLc, aYes, aCall, aRep, aRgT, turn, wipeA, br_true, br_false, List.map_nil, List.map_cons, List.nil_append, List.cons_append, List.replicate, List.getElem?_cons_zero, List.getElem?_cons_succ, List.set_cons_zero, List.set_cons_succ, List.length_cons, List.length_nil, enS_list, enS_tup, aNotT, aEnum, aRev, aAugD, sLt_int, sLt_ints, sRepT_tup, aCall2, sIsB_eq, sNotB_eq, aDnew, aSortD, ownD_own, aSda, aTupD, datAt_dat, sAllD, aSortSetI, isN_int, notN_int, sIn_int, sNotIn_int, sEq_int, sNe_int, sEq_bool, sNe_bool, sEq_str]
        refine ⟨fun _ => ⟨small_le (by decide), sNe_of (x := key) (y := []) (faith_tup faith_int) (n := 1) (fun a => Nat.le_of_eq (depth_tI a)) (by decide) ?_⟩, fun z => (nomatch z)⟩
        simp only [aName_eq, nm_dat, nm_own, dd_dat, dd_own, bb_bool, arg_dat, arg_own, arg_ali, das_nil, das_dat, cont_list, cont_tup, cont_own, cont_ali, contS_own, ownL_own, ownO_own, stor_dat, stor_own, iD_int, ii_int, i1_int, sAddU_int, sAddU_tup, truS_none, truS_bool, truS_int, truS_list, truS_tup, truS_ali, srcOf_list, srcOf_tup, srcOf_ali, Ab.got_some, gZ_nil, gC_cons, gT_tup, onlyDat_dat, notAli_dat, notAli_own, getO_some, fin_none, fin_some, finO_own, callA_nil, callA_dat, callA_ali, argS_none, argS_some, rt_ad, nx_ad, isN_none, isN_tup, notN_none, notN_tup, aNx, aRet, aIf, aSet, aAug, aDrop, aNever, aC, aBin, aBinR, aUn, aTst, aChain, aNot, aAnd, aOr, aIfE, aAndV, aOrV, aNotV, aNil, aCons, aTup, aLst, aCall1, aCallD, aIx, aApp, aExt, aSetIx, aTru, sLen, sAny, sAll, sSum, sList, sTuple, fI, fC, fB, aSeqI, aRng1, aFor, aFrz, gN, aUnp, aLc, aYes, aCall, aRep, aRgT, turn, wipeA, br_true, br_false, List.map_nil, List.map_cons, List.nil_append, List.cons_append, List.replicate, List.getElem?_cons_zero, List.getElem?_cons_succ, List.set_cons_zero, List.set_cons_succ, List.length_cons, List.length_nil, enS_list, enS_tup, aNotT, aEnum, aRev, aAugD, sLt_int, sLt_ints, sRepT_tup, aCall2, sIsB_eq, sNotB_eq, aDnew, aSortD, ownD_own, aSda, aTupD, datAt_dat, sAllD, aSortSetI, isN_int, notN_int, sIn_int, sNotIn_int, sEq_int, sNe_int, sEq_bool, sNe_bool, sEq_str]
        refine ⟨fun _ => ⟨wd, more, wide, q, rfl, rfl, hTmw, hq, rfl, ?_⟩, fun _ => kn⟩
        rcases sure_two q (groupsF more wide) with ⟨i, e, ha⟩ | ⟨i, e, ha⟩
        · rw [e]
          simp only [at_0, sNe_str, decide_true, Bool.not_true, aName_eq, nm_dat, nm_own, dd_dat, dd_own, bb_bool, arg_dat, arg_own, arg_ali, das_nil, das_dat, cont_list, cont_tup, cont_own, cont_ali, contS_own, ownL_own, ownO_own, stor_dat, stor_own, iD_int, ii_int, i1_int, sAddU_int, sAddU_tup, truS_none, truS_bool, truS_int, truS_list, truS_tup, truS_ali, srcOf_list, srcOf_tup, srcOf_ali, Ab.got_some, gZ_nil, gC_cons, gT_tup, onlyDat_dat, notAli_dat, notAli_own, getO_some, fin_none, fin_some, finO_own, callA_nil, callA_dat, callA_ali, argS_none, argS_some, rt_ad, nx_ad, isN_none, isN_tup, notN_none, notN_tup, aNx, aRet, aIf, aSet, aAug, aDrop, aNever, aC, aBin, aBinR, aUn, aTst, aChain, aNot, aAnd, aOr, aIfE, aAndV, aOrV, aNotV, aNil, aCons, aTup, aLst, aCall1, aCallD, aIx, aApp, aExt, aSetIx, aTru, sLen, sAny, sAll, sSum, sList, sTuple, fI, fC, fB, aSeqI, aRng1, aFor, aFrz, gN, aUnp, aLc, aYes, aCall, aRep, aRgT, turn, wipeA, br_true, br_false, List.map_nil, List.map_cons, List.nil_append, List.cons_append, List.replicate, List.getElem?_cons_zero, List.getElem?_cons_succ, List.set_cons_zero, List.set_cons_succ, List.length_cons, List.length_nil, enS_list, enS_tup, aNotT, aEnum, aRev, aAugD, sLt_int, sLt_ints, sRepT_tup, aCall2, sIsB_eq, sNotB_eq, aDnew, aSortD, ownD_own, aSda, aTupD, datAt_dat, sAllD, aSortSetI, isN_int, notN_int, sIn_int, sNotIn_int, sEq_int, sNe_int, sEq_bool, sNe_bool, sEq_str]
          exact kn
        · rw [e]
          have e2 : decide (Str.ofString "not" = Str.ofString "sure") = false := by decide
          simp only [at_0, sNe_str, e2, Bool.not_false, aName_eq, nm_dat, nm_own, dd_dat, dd_own, bb_bool, arg_dat, arg_own, arg_ali, das_nil, das_dat, cont_list, cont_tup, cont_own, cont_ali, contS_own, ownL_own, ownO_own, stor_dat, stor_own, iD_int, ii_int, i1_int, sAddU_int, sAddU_tup, truS_none, truS_bool, truS_int, truS_list, truS_tup, truS_ali, srcOf_list, srcOf_tup, srcOf_ali, Ab.got_some, gZ_nil, gC_cons, gT_tup, onlyDat_dat, notAli_dat, notAli_own, getO_some, fin_none, fin_some, finO_own, callA_nil, callA_dat, callA_ali, argS_none, argS_some, rt_ad, nx_ad, isN_none, isN_tup, notN_none, notN_tup, aNx, aRet, aIf, aSet, aAug, aDrop, aNever, aC, aBin, aBinR, aUn, aTst, aChain, aNot, aAnd, aOr, aIfE, aAndV, aOrV, aNotV, aNil, aCons, aTup, aLst, aCall1, aCallD, aIx, aApp, aExt, aSetIx, aTru, sLen, sAny, sAll, sSum, sList, sTuple, fI, fC, fB, aSeqI, aRng1, aFor, aFrz, gN, aUnp, aLc, aYes, aCall, aRep, aRgT, turn, wipeA, br_true, br_false, List.map_nil, List.map_cons, List.nil_append, List.cons_append, List.replicate, List.getElem?_cons_zero, List.getElem?_cons_succ, List.set_cons_zero, List.set_cons_succ, List.length_cons, List.length_nil, enS_list, enS_tup, aNotT, aEnum, aRev, aAugD, sLt_int, sLt_ints, sRepT_tup, aCall2, sIsB_eq, sNotB_eq, aDnew, aSortD, ownD_own, aSda, aTupD, datAt_dat, sAllD, aSortSetI, isN_int, notN_int, sIn_int, sNotIn_int, sEq_int, sNe_int, sEq_bool, sNe_bool, sEq_str]
          refine ⟨wd, rows, wide, q, rfl, rfl, hTw, hq, rfl, ?_⟩
          rcases sure_two q (groupsF rows wide) with ⟨i, e, ha⟩ | ⟨i, e, ha⟩
          · rw [e]
            simp only [at_0, sNe_str, decide_true, Bool.not_true, aName_eq, nm_dat, nm_own, dd_dat, dd_own, bb_bool, arg_dat, arg_own, arg_ali, das_nil, das_dat, cont_list, cont_tup, cont_own, cont_ali, contS_own, ownL_own, ownO_own, stor_dat, stor_own, iD_int, ii_int, i1_int, sAddU_int, sAddU_tup, truS_none, truS_bool, truS_int, truS_list, truS_tup, truS_ali, srcOf_list, srcOf_tup, srcOf_ali, Ab.got_some, gZ_nil, gC_cons, gT_tup, onlyDat_dat, notAli_dat, notAli_own, getO_some, fin_none, fin_some, finO_own, callA_nil, callA_dat, callA_ali, argS_none, argS_some, rt_ad, nx_ad, isN_none, isN_tup, notN_none, notN_tup, aNx, aRet, aIf, aSet, aAug, aDrop, aNever, aC, aBin, aBinR, aUn, aTst, aChain, aNot, aAnd, aOr, aIfE, aAndV, aOrV, aNotV, aNil, aCons, aTup, aLst, aCall1, aCallD, aIx, aApp, aExt, aSetIx, aTru, sLen, sAny, sAll, sSum, sList, sTuple, fI, fC, fB, aSeqI, aRng1, aFor, aFrz, gN, aUnp, aLc, aYes, aCall, aRep, aRgT, turn, wipeA, br_true, br_false, List.map_nil, List.map_cons, List.nil_append, List.cons_append, List.replicate, List.getElem?_cons_zero, List.getElem?_cons_succ, List.set_cons_zero, List.set_cons_succ, List.length_cons, List.length_nil, enS_list, enS_tup, aNotT, aEnum, aRev, aAugD, sLt_int, sLt_ints, sRepT_tup, aCall2, sIsB_eq, sNotB_eq, aDnew, aSortD, ownD_own, aSda, aTupD, datAt_dat, sAllD, aSortSetI, isN_int, notN_int, sIn_int, sNotIn_int, sEq_int, sNe_int, sEq_bool, sNe_bool, sEq_str]
            exact kn
          · rw [wide_sure wkey hs] at ha
            cases ha
      · have e1 : decide (Str.ofString "not" = Str.ofString "sure") = false := by decide
        simp only [sv, e1, aName_eq, nm_dat, nm_own, dd_dat, dd_own, bb_bool, arg_dat, arg_own, arg_ali, das_nil, das_dat, cont_list, cont_tup, cont_own, cont_ali, contS_own, ownL_own, ownO_own, stor_dat, stor_own, iD_int, ii_int, i1_int, sAddU_int, sAddU_tup, truS_none, truS_bool, truS_int, truS_list, truS_tup, truS_ali, srcOf_list, srcOf_tup, srcOf_ali, Ab.got_some, gZ_nil, gC_cons, gT_tup, onlyDat_dat, notAli_dat, notAli_own, getO_some, fin_none, fin_some, finO_own, callA_nil, callA_dat, callA_ali, argS_none, argS_some, rt_ad, nx_ad, isN_none, isN_tup, notN_none, notN_tup, aNx, aRet, aIf, aSet, aAug, aDrop, aNever, aC, aBin, aBinR, aUn, aTst, aChain, aNot, aAnd, aOr, aIfE, aAndV, aOrV, aNotV, aNil, aCons, aTup, aLst, aCall1, aCallD, aIx, aApp, aExt, aSetIx, aTru, sLen, sAny, sAll, sSum, sList, sTuple, fI, fC, fB, aSeqI, aRng1, aFor, aFrz, gN, aUnp, aLc, aYes, aCall, aRep, aRgT, turn, wipeA, br_true, br_false, List.map_nil, List.map_cons, List.nil_append, List.cons_append, List.replicate, List.getElem?_cons_zero, List.getElem?_cons_succ, List.set_cons_zero, List.set_cons_succ, List.length_cons, List.length_nil, enS_list, enS_tup, aNotT, aEnum, aRev, aAugD, sLt_int, sLt_ints, sRepT_tup, aCall2, sIsB_eq, sNotB_eq, aDnew, aSortD, ownD_own, aSda, aTupD, datAt_dat, sAllD, aSortSetI, isN_int, notN_int, sIn_int, sNotIn_int, sEq_int, sNe_int, sEq_bool, sNe_bool, sEq_str]
        exact kn
    refine cut (fun ρ => ∃ (other : List Row) (t l s : Int), OkRows 2 other ∧ OkTape ns t l s ∧ ρ = [some (.own (some 0) (.lst (tape ns t l s))), some (.dat (.int (wd : Int))), some (.dat (eR rows)), some (.dat (tI key)), some (.dat (.int (countF rows key))), some (.dat (.tuple ((groupsF rows key).map eR))), some (.dat (eQ q)), some (.dat (kind)), some (.dat (.int c)), some (.dat (.int (lowF c wd (groupsF rows key)))), some (.dat (.int (highF c wd (groupsF rows key)))), x11, x12, none, x14, x15, some (.dat (tI row)), some (.dat (eR more)), some (.dat (tI wide)), some (.dat (eR other)), none, none, none, none, none, none, none]) (fun Kn kn => ?_) ?_
    · simp only [aName_eq, nm_dat, nm_own, dd_dat, dd_own, bb_bool, arg_dat, arg_own, arg_ali, das_nil, das_dat, cont_list, cont_tup, cont_own, cont_ali, contS_own, ownL_own, ownO_own, stor_dat, stor_own, iD_int, ii_int, i1_int, sAddU_int, sAddU_tup, truS_none, truS_bool, truS_int, truS_list, truS_tup, truS_ali, srcOf_list, srcOf_tup, srcOf_ali, Ab.got_some, gZ_nil, gC_cons, gT_tup, onlyDat_dat, notAli_dat, notAli_own, getO_some, fin_none, fin_some, finO_own, callA_nil, callA_dat, callA_ali, argS_none, argS_some, rt_ad, nx_ad, isN_none, isN_tup, notN_none, notN_tup, aNx, aRet, aIf, aSet, aAug, aDrop, aNever, aC, aBin, aBinR, aUn, aTst, aChain, aNot, aAnd, aOr, aIfE, aAndV, aOrV, aNotV, aNil, aCons, aTup, aLst, aCall1, aCallD, aIx, aApp, aExt, aSetIx, aTru, sLen, sAny, sAll, sSum, sList, sTuple, fI, fC, fB, aSeqI, aRng1, aFor, aFrz, gN, aUnp, aLc, aYes, aCall, aRep, aRgT, turn, wipeA, br_true, br_false, List.map_nil, List.map_cons, List.nil_append, List.cons_append, List.replicate, List.getElem?_cons_zero, List.getElem?_cons_succ, List.set_cons_zero, List.set_cons_succ, List.length_cons, List.length_nil, enS_list, enS_tup, aNotT, aEnum, aRev, aAugD, sLt_int, sLt_ints, sRepT_tup, aCall2, sIsB_eq, sNotB_eq, aDnew, aSortD, ownD_own, aSda, aTupD, datAt_dat, sAllD, aSortSetI, isN_int, notN_int, sIn_int, sNotIn_int, sEq_int, sNe_int, sEq_bool, sNe_bool, sEq_str]
      refine ⟨ns, t, l, s, 2, rfl, rfl, hTp, by decide, by decide, fun other t' l' s' hO hT' => ?_⟩
      simp only [aName_eq, nm_dat, nm_own, dd_dat, dd_own, bb_bool, arg_dat, arg_own, arg_ali, das_nil, das_dat, cont_list, cont_tup, cont_own, cont_ali, contS_own, ownL_own, ownO_own, stor_dat, stor_own, iD_int, ii_int, i1_int, sAddU_int, sAddU_tup, truS_none, truS_bool, truS_int, truS_list, truS_tup, truS_ali, srcOf_list, srcOf_tup, srcOf_ali, Ab.got_some, gZ_nil, gC_cons, gT_tup, onlyDat_dat, notAli_dat, notAli_own, getO_some, fin_none, fin_some, finO_own, callA_nil, callA_dat, callA_ali, argS_none, argS_some, rt_ad, nx_ad, isN_none, isN_tup, notN_none, notN_tup, aNx, aRet, aIf, aSet, aAug, aDrop, aNever, aC, aBin, aBinR, aUn, aTst, aChain, aNot, aAnd, aOr, aIfE, aAndV, aOrV, aNotV, aNil, aCons, aTup, aLst, aCall1, aCallD, aIx, aApp, aExt, aSetIx, aTru, sLen, sAny, sAll, sSum, sList, sTuple, fI, fC, fB, aSeqI, aRng1, aFor, aFrz, gN, aUnp, aLc, aYes, aCall, aRep, aRgT, turn, wipeA, br_true, br_false, List.map_nil, List.map_cons, List.nil_append, List.cons_append, List.replicate, List.getElem?_cons_zero, List.getElem?_cons_succ, List.set_cons_zero, List.set_cons_succ, List.length_cons, List.length_nil, enS_list, enS_tup, aNotT, aEnum, aRev, aAugD, sLt_int, sLt_ints, sRepT_tup, aCall2, sIsB_eq, sNotB_eq, aDnew, aSortD, ownD_own, aSda, aTupD, datAt_dat, sAllD, aSortSetI, isN_int, notN_int, sIn_int, sNotIn_int, sEq_int, sNe_int, sEq_bool, sNe_bool, sEq_str]
      exact kn _ ⟨other, t', l', s', hO, hT', rfl⟩
    rintro ρ ⟨other, t, l, s, hO, hTp, rfl⟩
    refine cut (fun ρ => ∃ (o t l s : Int), 0 ≤ o ∧ o < 2 ∧ OkTape ns t l s ∧ ρ = [some (.own (some 0) (.lst (tape ns t l s))), some (.dat (.int (wd : Int))), some (.dat (eR rows)), some (.dat (tI key)), some (.dat (.int (countF rows key))), some (.dat (.tuple ((groupsF rows key).map eR))), some (.dat (eQ q)), some (.dat (kind)), some (.dat (.int c)), some (.dat (.int (lowF c wd (groupsF rows key)))), some (.dat (.int (highF c wd (groupsF rows key)))), x11, x12, none, x14, x15, some (.dat (tI row)), some (.dat (eR more)), some (.dat (tI wide)), some (.dat (eR other)), some (.dat (.int o)), none, none, none, none, none, none]) (fun Kn kn => ?_) ?_
    · simp only [aName_eq, nm_dat, nm_own, dd_dat, dd_own, bb_bool, arg_dat, arg_own, arg_ali, das_nil, das_dat, cont_list, cont_tup, cont_own, cont_ali, contS_own, ownL_own, ownO_own, stor_dat, stor_own, iD_int, ii_int, i1_int, sAddU_int, sAddU_tup, truS_none, truS_bool, truS_int, truS_list, truS_tup, truS_ali, srcOf_list, srcOf_tup, srcOf_ali, Ab.got_some, gZ_nil, gC_cons, gT_tup, onlyDat_dat, notAli_dat, notAli_own, getO_some, fin_none, fin_some, finO_own, callA_nil, callA_dat, callA_ali, argS_none, argS_some, rt_ad, nx_ad, isN_none, isN_tup, notN_none, notN_tup, aNx, aRet, aIf, aSet, aAug, aDrop, aNever, aC, aBin, aBinR, aUn, aTst, aChain, aNot, aAnd, aOr, aIfE, aAndV, aOrV, aNotV, aNil, aCons, aTup, aLst, aCall1, aCallD, aIx, aApp, aExt, aSetIx, aTru, sLen, sAny, sAll, sSum, sList, sTuple, fI, fC, fB, aSeqI, aRng1, aFor, aFrz, gN, aUnp, aLc, aYes, aCall, aRep, aRgT, turn, wipeA, br_true, br_false, List.map_nil, List.map_cons, List.nil_append, List.cons_append, List.replicate, List.getElem?_cons_zero, List.getElem?_cons_succ, List.set_cons_zero, List.set_cons_succ, List.length_cons, List.length_nil, enS_list, enS_tup, aNotT, aEnum, aRev, aAugD, sLt_int, sLt_ints, sRepT_tup, aCall2, sIsB_eq, sNotB_eq, aDnew, aSortD, ownD_own, aSda, aTupD, datAt_dat, sAllD, aSortSetI, isN_int, notN_int, sIn_int, sNotIn_int, sEq_int, sNe_int, sEq_bool, sNe_bool, sEq_str]
      refine ⟨ns, t, l, s, 2, rfl, rfl, hTp, by decide, by decide, fun r t' l' s' r0 r1 hT' => ?_⟩
      simp only [aName_eq, nm_dat, nm_own, dd_dat, dd_own, bb_bool, arg_dat, arg_own, arg_ali, das_nil, das_dat, cont_list, cont_tup, cont_own, cont_ali, contS_own, ownL_own, ownO_own, stor_dat, stor_own, iD_int, ii_int, i1_int, sAddU_int, sAddU_tup, truS_none, truS_bool, truS_int, truS_list, truS_tup, truS_ali, srcOf_list, srcOf_tup, srcOf_ali, Ab.got_some, gZ_nil, gC_cons, gT_tup, onlyDat_dat, notAli_dat, notAli_own, getO_some, fin_none, fin_some, finO_own, callA_nil, callA_dat, callA_ali, argS_none, argS_some, rt_ad, nx_ad, isN_none, isN_tup, notN_none, notN_tup, aNx, aRet, aIf, aSet, aAug, aDrop, aNever, aC, aBin, aBinR, aUn, aTst, aChain, aNot, aAnd, aOr, aIfE, aAndV, aOrV, aNotV, aNil, aCons, aTup, aLst, aCall1, aCallD, aIx, aApp, aExt, aSetIx, aTru, sLen, sAny, sAll, sSum, sList, sTuple, fI, fC, fB, aSeqI, aRng1, aFor, aFrz, gN, aUnp, aLc, aYes, aCall, aRep, aRgT, turn, wipeA, br_true, br_false, List.map_nil, List.map_cons, List.nil_append, List.cons_append, List.replicate, List.getElem?_cons_zero, List.getElem?_cons_succ, List.set_cons_zero, List.set_cons_succ, List.length_cons, List.length_nil, enS_list, enS_tup, aNotT, aEnum, aRev, aAugD, sLt_int, sLt_ints, sRepT_tup, aCall2, sIsB_eq, sNotB_eq, aDnew, aSortD, ownD_own, aSda, aTupD, datAt_dat, sAllD, aSortSetI, isN_int, notN_int, sIn_int, sNotIn_int, sEq_int, sNe_int, sEq_bool, sNe_bool, sEq_str]
      exact kn _ ⟨r, t', l', s', r0, r1, hT', rfl⟩
    rintro ρ ⟨o, t, l, s, o0, o1, hTp, rfl⟩
    have hTo : OkTab 2 other [0] := hO.tab (by decide) (by simp) (fun x hx => by rw [List.mem_singleton.mp hx]; exact ⟨by decide, by decide⟩)
    have ho1 : o < ((2 : Nat) : Int) := o1
    have hA5 : countF rows key ≤ 5000 := by
      have : countF rows key ≤ 256 := count_few (by have := hR.few; omega)
      omega
    have hB5 : countF other [0] ≤ 5000 := by
      have : countF other [0] ≤ 256 := count_few (by have := hO.few; omega)
      omega
    have hneA : ∀ g ∈ groupsF rows key, g ≠ [] := fun g hg => (hgk g hg).ne
    have hgo : ∀ g ∈ groupsF other [0], OkG 2 other g := groups_ok hTo
    have hneB : ∀ g ∈ groupsF other [0], g ≠ [] := fun g hg => (hgo g hg).ne
    have hgl2 := groups_len hTo
    have ht0 : PyData.tuple [PyData.int 0] = tI [0] := rfl
    refine cut1 [some (.own (some 0) (.lst (tape ns t l s))), some (.dat (.int (wd : Int))), some (.dat (eR rows)), some (.dat (tI key)), some (.dat (.int (countF rows key))), some (.dat (.tuple ((groupsF rows key).map eR))), some (.dat (eQ q)), some (.dat (kind)), some (.dat (.int c)), some (.dat (.int (lowF c wd (groupsF rows key)))), some (.dat (.int (highF c wd (groupsF rows key)))), x11, x12, none, x14, x15, some (.dat (tI row)), some (.dat (eR more)), some (.dat (tI wide)), some (.dat (eR other)), some (.dat (.int o)), some (.dat (eApart (apartF (groupsF rows key) (groupsF other [0]) c o))), none, none, none, none, none] (fun Kn kn => ?_) ?_
    · simp only [aName_eq, nm_dat, nm_own, dd_dat, dd_own, bb_bool, arg_dat, arg_own, arg_ali, das_nil, das_dat, cont_list, cont_tup, cont_own, cont_ali, contS_own, ownL_own, ownO_own, stor_dat, stor_own, iD_int, ii_int, i1_int, sAddU_int, sAddU_tup, truS_none, truS_bool, truS_int, truS_list, truS_tup, truS_ali, srcOf_list, srcOf_tup, srcOf_ali, Ab.got_some, gZ_nil, gC_cons, gT_tup, onlyDat_dat, notAli_dat, notAli_own, getO_some, fin_none, fin_some, finO_own, callA_nil, callA_dat, callA_ali, argS_none, argS_some, rt_ad, nx_ad, isN_none, isN_tup, notN_none, notN_tup, aNx, aRet, aIf, aSet, aAug, aDrop, aNever, aC, aBin, aBinR, aUn, aTst, aChain, aNot, aAnd, aOr, aIfE, aAndV, aOrV, aNotV, aNil, aCons, aTup, aLst, aCall1, aCallD, aIx, aApp, aExt, aSetIx, aTru, sLen, sAny, sAll, sSum, sList, sTuple, fI, fC, fB, aSeqI, aRng1, aFor, aFrz, gN, aUnp, aLc, aYes, aCall, aRep, aRgT, turn, wipeA, br_true, br_false, List.map_nil, List.map_cons, List.nil_append, List.cons_append, List.replicate, List.getElem?_cons_zero, List.getElem?_cons_succ, List.set_cons_zero, List.set_cons_succ, List.length_cons, List.length_nil, enS_list, enS_tup, aNotT, aEnum, aRev, aAugD, sLt_int, sLt_ints, sRepT_tup, aCall2, sIsB_eq, sNotB_eq, aDnew, aSortD, ownD_own, aSda, aTupD, datAt_dat, sAllD, aSortSetI, isN_int, notN_int, sIn_int, sNotIn_int, sEq_int, sNe_int, sEq_bool, sNe_bool, sEq_str]
      refine ⟨small_le (by decide), wd, 2, rows, key, other, [0], c, o, rfl, rfl, hT, hTo, c0, c1, o0, ho1, hA5, rfl, ?_⟩
      simp only [aName_eq, nm_dat, nm_own, dd_dat, dd_own, bb_bool, arg_dat, arg_own, arg_ali, das_nil, das_dat, cont_list, cont_tup, cont_own, cont_ali, contS_own, ownL_own, ownO_own, stor_dat, stor_own, iD_int, ii_int, i1_int, sAddU_int, sAddU_tup, truS_none, truS_bool, truS_int, truS_list, truS_tup, truS_ali, srcOf_list, srcOf_tup, srcOf_ali, Ab.got_some, gZ_nil, gC_cons, gT_tup, onlyDat_dat, notAli_dat, notAli_own, getO_some, fin_none, fin_some, finO_own, callA_nil, callA_dat, callA_ali, argS_none, argS_some, rt_ad, nx_ad, isN_none, isN_tup, notN_none, notN_tup, aNx, aRet, aIf, aSet, aAug, aDrop, aNever, aC, aBin, aBinR, aUn, aTst, aChain, aNot, aAnd, aOr, aIfE, aAndV, aOrV, aNotV, aNil, aCons, aTup, aLst, aCall1, aCallD, aIx, aApp, aExt, aSetIx, aTru, sLen, sAny, sAll, sSum, sList, sTuple, fI, fC, fB, aSeqI, aRng1, aFor, aFrz, gN, aUnp, aLc, aYes, aCall, aRep, aRgT, turn, wipeA, br_true, br_false, List.map_nil, List.map_cons, List.nil_append, List.cons_append, List.replicate, List.getElem?_cons_zero, List.getElem?_cons_succ, List.set_cons_zero, List.set_cons_succ, List.length_cons, List.length_nil, enS_list, enS_tup, aNotT, aEnum, aRev, aAugD, sLt_int, sLt_ints, sRepT_tup, aCall2, sIsB_eq, sNotB_eq, aDnew, aSortD, ownD_own, aSda, aTupD, datAt_dat, sAllD, aSortSetI, isN_int, notN_int, sIn_int, sNotIn_int, sEq_int, sNe_int, sEq_bool, sNe_bool, sEq_str]
      exact kn
    refine cut (fun ρ => ∃ (x13 x22 x25 : Option AV), ρ = [some (.own (some 0) (.lst (tape ns t l s))), some (.dat (.int (wd : Int))), some (.dat (eR rows)), some (.dat (tI key)), some (.dat (.int (countF rows key))), some (.dat (.tuple ((groupsF rows key).map eR))), some (.dat (eQ q)), some (.dat (kind)), some (.dat (.int c)), some (.dat (.int (lowF c wd (groupsF rows key)))), some (.dat (.int (highF c wd (groupsF rows key)))), x11, x12, x13, x14, x15, some (.dat (tI row)), some (.dat (eR more)), some (.dat (tI wide)), some (.dat (eR other)), some (.dat (.int o)), some (.dat (eApart (apartF (groupsF rows key) (groupsF other [0]) c o))), x22, none, none, x25, none]) (fun Kn kn => ?_) ?_
    · cases hp : apartF (groupsF rows key) (groupsF other [0]) c o with
      | some p =>
        obtain ⟨x, y⟩ := p
        obtain ⟨hx, hy, hd⟩ := apart_some hneA hp
        have lx : x.length ≤ 40 := by rw [hx.len]; exact hgl
        have ly : y.length ≤ 40 := by rw [hy.len]; exact hgl2
        have wx : ∀ r ∈ x, r.length = wd := fun r hr => by
          obtain ⟨g, h1, h2⟩ := hx.mem r hr
          exact (hgk g h1).wid r h2
        have wy : ∀ r ∈ y, r.length = 2 := fun r hr => by
          obtain ⟨g, h1, h2⟩ := hy.mem r hr
          exact (hgo g h1).wid r h2
        rw [hp] at kn
        simp only [eApart, aName_eq, nm_dat, nm_own, dd_dat, dd_own, bb_bool, arg_dat, arg_own, arg_ali, das_nil, das_dat, cont_list, cont_tup, cont_own, cont_ali, contS_own, ownL_own, ownO_own, stor_dat, stor_own, iD_int, ii_int, i1_int, sAddU_int, sAddU_tup, truS_none, truS_bool, truS_int, truS_list, truS_tup, truS_ali, srcOf_list, srcOf_tup, srcOf_ali, Ab.got_some, gZ_nil, gC_cons, gT_tup, onlyDat_dat, notAli_dat, notAli_own, getO_some, fin_none, fin_some, finO_own, callA_nil, callA_dat, callA_ali, argS_none, argS_some, rt_ad, nx_ad, isN_none, isN_tup, notN_none, notN_tup, aNx, aRet, aIf, aSet, aAug, aDrop, aNever, aC, aBin, aBinR, aUn, aTst, aChain, aNot, aAnd, aOr, aIfE, aAndV, aOrV, aNotV, aNil, aCons, aTup, aLst, aCall1, aCallD, aIx, aApp, aExt, aSetIx, aTru, sLen, sAny, sAll, sSum, sList, sTuple, fI, fC, fB, aSeqI, aRng1, aFor, aFrz, gN, aUnp, aLc, aYes, aCall, aRep, aRgT, turn, wipeA, br_true, br_false, List.map_nil, List.map_cons, List.nil_append, List.cons_append, List.replicate, List.getElem?_cons_zero, List.getElem?_cons_succ, List.set_cons_zero, List.set_cons_succ, List.length_cons, List.length_nil, enS_list, enS_tup, aNotT, aEnum, aRev, aAugD, sLt_int, sLt_ints, sRepT_tup, aCall2, sIsB_eq, sNotB_eq, aDnew, aSortD, ownD_own, aSda, aTupD, datAt_dat, sAllD, aSortSetI, isN_int, notN_int, sIn_int, sNotIn_int, sEq_int, sNe_int, sEq_bool, sNe_bool, sEq_str]
        refine ⟨small_le (by decide), wd, 2, rows, key, other, [0], c, o, x, y, rfl, rfl, hT, hTo, c0, c1, o0, ho1, lx, ly, wx, wy, hx.isMend, hy.isMend, pairs_nil hd, rfl, ?_⟩
        simp only [at_0, at_1, eR, decide_true, Bool.not_true, aName_eq, nm_dat, nm_own, dd_dat, dd_own, bb_bool, arg_dat, arg_own, arg_ali, das_nil, das_dat, cont_list, cont_tup, cont_own, cont_ali, contS_own, ownL_own, ownO_own, stor_dat, stor_own, iD_int, ii_int, i1_int, sAddU_int, sAddU_tup, truS_none, truS_bool, truS_int, truS_list, truS_tup, truS_ali, srcOf_list, srcOf_tup, srcOf_ali, Ab.got_some, gZ_nil, gC_cons, gT_tup, onlyDat_dat, notAli_dat, notAli_own, getO_some, fin_none, fin_some, finO_own, callA_nil, callA_dat, callA_ali, argS_none, argS_some, rt_ad, nx_ad, isN_none, isN_tup, notN_none, notN_tup, aNx, aRet, aIf, aSet, aAug, aDrop, aNever, aC, aBin, aBinR, aUn, aTst, aChain, aNot, aAnd, aOr, aIfE, aAndV, aOrV, aNotV, aNil, aCons, aTup, aLst, aCall1, aCallD, aIx, aApp, aExt, aSetIx, aTru, sLen, sAny, sAll, sSum, sList, sTuple, fI, fC, fB, aSeqI, aRng1, aFor, aFrz, gN, aUnp, aLc, aYes, aCall, aRep, aRgT, turn, wipeA, br_true, br_false, List.map_nil, List.map_cons, List.nil_append, List.cons_append, List.replicate, List.getElem?_cons_zero, List.getElem?_cons_succ, List.set_cons_zero, List.set_cons_succ, List.length_cons, List.length_nil, enS_list, enS_tup, aNotT, aEnum, aRev, aAugD, sLt_int, sLt_ints, sRepT_tup, aCall2, sIsB_eq, sNotB_eq, aDnew, aSortD, ownD_own, aSda, aTupD, datAt_dat, sAllD, aSortSetI, isN_int, notN_int, sIn_int, sNotIn_int, sEq_int, sNe_int, sEq_bool, sNe_bool, sEq_str]
        refine lc_pure (enc := tI) (fun r => decide (col c r ∈ y.map (col o))) (fun _ => .int 1) trivial (by simp [Ab.freeOf]) (small_len (by omega)) (fun r hr Ka Ks ka ks => ?_) ?_
        · have q1 : atI (r.map PyData.int) c = some (.int (col c r)) := atI_nn c0 (by rw [wx r hr]; exact c1)
          simp only [tI, q1, at_1, aName_eq, nm_dat, nm_own, dd_dat, dd_own, bb_bool, arg_dat, arg_own, arg_ali, das_nil, das_dat, cont_list, cont_tup, cont_own, cont_ali, contS_own, ownL_own, ownO_own, stor_dat, stor_own, iD_int, ii_int, i1_int, sAddU_int, sAddU_tup, truS_none, truS_bool, truS_int, truS_list, truS_tup, truS_ali, srcOf_list, srcOf_tup, srcOf_ali, Ab.got_some, gZ_nil, gC_cons, gT_tup, onlyDat_dat, notAli_dat, notAli_own, getO_some, fin_none, fin_some, finO_own, callA_nil, callA_dat, callA_ali, argS_none, argS_some, rt_ad, nx_ad, isN_none, isN_tup, notN_none, notN_tup, aNx, aRet, aIf, aSet, aAug, aDrop, aNever, aC, aBin, aBinR, aUn, aTst, aChain, aNot, aAnd, aOr, aIfE, aAndV, aOrV, aNotV, aNil, aCons, aTup, aLst, aCall1, aCallD, aIx, aApp, aExt, aSetIx, aTru, sLen, sAny, sAll, sSum, sList, sTuple, fI, fC, fB, aSeqI, aRng1, aFor, aFrz, gN, aUnp, aLc, aYes, aCall, aRep, aRgT, turn, wipeA, br_true, br_false, List.map_nil, List.map_cons, List.nil_append, List.cons_append, List.replicate, List.getElem?_cons_zero, List.getElem?_cons_succ, List.set_cons_zero, List.set_cons_succ, List.length_cons, List.length_nil, enS_list, enS_tup, aNotT, aEnum, aRev, aAugD, sLt_int, sLt_ints, sRepT_tup, aCall2, sIsB_eq, sNotB_eq, aDnew, aSortD, ownD_own, aSda, aTupD, datAt_dat, sAllD, aSortSetI, isN_int, notN_int, sIn_int, sNotIn_int, sEq_int, sNe_int, sEq_bool, sNe_bool, sEq_str]
          refine lc_map (enc := tI) (fun r => .int (col o r)) trivial (by simp [Ab.freeOf]) (small_len (by omega)) (fun r2 hr2 Kb Ks2 kb => ?_) ?_
          · have q2 : atI (r2.map PyData.int) o = some (.int (col o r2)) := atI_nn o0 (by rw [wy r2 hr2]; exact ho1)
            simp only [tI, q2, aName_eq, nm_dat, nm_own, dd_dat, dd_own, bb_bool, arg_dat, arg_own, arg_ali, das_nil, das_dat, cont_list, cont_tup, cont_own, cont_ali, contS_own, ownL_own, ownO_own, stor_dat, stor_own, iD_int, ii_int, i1_int, sAddU_int, sAddU_tup, truS_none, truS_bool, truS_int, truS_list, truS_tup, truS_ali, srcOf_list, srcOf_tup, srcOf_ali, Ab.got_some, gZ_nil, gC_cons, gT_tup, onlyDat_dat, notAli_dat, notAli_own, getO_some, fin_none, fin_some, finO_own, callA_nil, callA_dat, callA_ali, argS_none, argS_some, rt_ad, nx_ad, isN_none, isN_tup, notN_none, notN_tup, aNx, aRet, aIf, aSet, aAug, aDrop, aNever, aC, aBin, aBinR, aUn, aTst, aChain, aNot, aAnd, aOr, aIfE, aAndV, aOrV, aNotV, aNil, aCons, aTup, aLst, aCall1, aCallD, aIx, aApp, aExt, aSetIx, aTru, sLen, sAny, sAll, sSum, sList, sTuple, fI, fC, fB, aSeqI, aRng1, aFor, aFrz, gN, aUnp, aLc, aYes, aCall, aRep, aRgT, turn, wipeA, br_true, br_false, List.map_nil, List.map_cons, List.nil_append, List.cons_append, List.replicate, List.getElem?_cons_zero, List.getElem?_cons_succ, List.set_cons_zero, List.set_cons_succ, List.length_cons, List.length_nil, enS_list, enS_tup, aNotT, aEnum, aRev, aAugD, sLt_int, sLt_ints, sRepT_tup, aCall2, sIsB_eq, sNotB_eq, aDnew, aSortD, ownD_own, aSda, aTupD, datAt_dat, sAllD, aSortSetI, isN_int, notN_int, sIn_int, sNotIn_int, sEq_int, sNe_int, sEq_bool, sNe_bool, sEq_str]
            exact kb
          · rw [show (y.map fun r => PyData.int (col o r)) = (y.map (col o)).map PyData.int by rw [List.map_map]; rfl]
            simp only [aName_eq, nm_dat, nm_own, dd_dat, dd_own, bb_bool, arg_dat, arg_own, arg_ali, das_nil, das_dat, cont_list, cont_tup, cont_own, cont_ali, contS_own, ownL_own, ownO_own, stor_dat, stor_own, iD_int, ii_int, i1_int, sAddU_int, sAddU_tup, truS_none, truS_bool, truS_int, truS_list, truS_tup, truS_ali, srcOf_list, srcOf_tup, srcOf_ali, Ab.got_some, gZ_nil, gC_cons, gT_tup, onlyDat_dat, notAli_dat, notAli_own, getO_some, fin_none, fin_some, finO_own, callA_nil, callA_dat, callA_ali, argS_none, argS_some, rt_ad, nx_ad, isN_none, isN_tup, notN_none, notN_tup, aNx, aRet, aIf, aSet, aAug, aDrop, aNever, aC, aBin, aBinR, aUn, aTst, aChain, aNot, aAnd, aOr, aIfE, aAndV, aOrV, aNotV, aNil, aCons, aTup, aLst, aCall1, aCallD, aIx, aApp, aExt, aSetIx, aTru, sLen, sAny, sAll, sSum, sList, sTuple, fI, fC, fB, aSeqI, aRng1, aFor, aFrz, gN, aUnp, aLc, aYes, aCall, aRep, aRgT, turn, wipeA, br_true, br_false, List.map_nil, List.map_cons, List.nil_append, List.cons_append, List.replicate, List.getElem?_cons_zero, List.getElem?_cons_succ, List.set_cons_zero, List.set_cons_succ, List.length_cons, List.length_nil, enS_list, enS_tup, aNotT, aEnum, aRev, aAugD, sLt_int, sLt_ints, sRepT_tup, aCall2, sIsB_eq, sNotB_eq, aDnew, aSortD, ownD_own, aSda, aTupD, datAt_dat, sAllD, aSortSetI, isN_int, notN_int, sIn_int, sNotIn_int, sEq_int, sNe_int, sEq_bool, sNe_bool, sEq_str]
            exact ⟨ka, ks⟩
        · have e0 : x.filter (fun r => decide (col c r ∈ y.map (col o))) = [] := by
            rw [List.filter_eq_nil_iff]
            intro r hr z
            obtain ⟨s, hs, e⟩ := List.mem_map.mp (of_decide_eq_true z)
            exact hd s hs r hr e.symm
          rw [e0]
          have e9 : decide ((0 : Int) < ((0 : Nat) : Int)) = false := by decide
          simp only [e9, aName_eq, nm_dat, nm_own, dd_dat, dd_own, bb_bool, arg_dat, arg_own, arg_ali, das_nil, das_dat, cont_list, cont_tup, cont_own, cont_ali, contS_own, ownL_own, ownO_own, stor_dat, stor_own, iD_int, ii_int, i1_int, sAddU_int, sAddU_tup, truS_none, truS_bool, truS_int, truS_list, truS_tup, truS_ali, srcOf_list, srcOf_tup, srcOf_ali, Ab.got_some, gZ_nil, gC_cons, gT_tup, onlyDat_dat, notAli_dat, notAli_own, getO_some, fin_none, fin_some, finO_own, callA_nil, callA_dat, callA_ali, argS_none, argS_some, rt_ad, nx_ad, isN_none, isN_tup, notN_none, notN_tup, aNx, aRet, aIf, aSet, aAug, aDrop, aNever, aC, aBin, aBinR, aUn, aTst, aChain, aNot, aAnd, aOr, aIfE, aAndV, aOrV, aNotV, aNil, aCons, aTup, aLst, aCall1, aCallD, aIx, aApp, aExt, aSetIx, aTru, sLen, sAny, sAll, sSum, sList, sTuple, fI, fC, fB, aSeqI, aRng1, aFor, aFrz, gN, aUnp, aLc, aYes, aCall, aRep, aRgT, turn, wipeA, br_true, br_false, List.map_nil, List.map_cons, List.nil_append, List.cons_append, List.replicate, List.getElem?_cons_zero, List.getElem?_cons_succ, List.set_cons_zero, List.set_cons_succ, List.length_cons, List.length_nil, enS_list, enS_tup, aNotT, aEnum, aRev, aAugD, sLt_int, sLt_ints, sRepT_tup, aCall2, sIsB_eq, sNotB_eq, aDnew, aSortD, ownD_own, aSda, aTupD, datAt_dat, sAllD, aSortSetI, isN_int, notN_int, sIn_int, sNotIn_int, sEq_int, sNe_int, sEq_bool, sNe_bool, sEq_str]
          exact kn _ ⟨_, _, _, rfl⟩
      | none =>
        have hno := apart_none.mp hp
        rw [hp] at kn
        simp only [eApart, aName_eq, nm_dat, nm_own, dd_dat, dd_own, bb_bool, arg_dat, arg_own, arg_ali, das_nil, das_dat, cont_list, cont_tup, cont_own, cont_ali, contS_own, ownL_own, ownO_own, stor_dat, stor_own, iD_int, ii_int, i1_int, sAddU_int, sAddU_tup, truS_none, truS_bool, truS_int, truS_list, truS_tup, truS_ali, srcOf_list, srcOf_tup, srcOf_ali, Ab.got_some, gZ_nil, gC_cons, gT_tup, onlyDat_dat, notAli_dat, notAli_own, getO_some, fin_none, fin_some, finO_own, callA_nil, callA_dat, callA_ali, argS_none, argS_some, rt_ad, nx_ad, isN_none, isN_tup, notN_none, notN_tup, aNx, aRet, aIf, aSet, aAug, aDrop, aNever, aC, aBin, aBinR, aUn, aTst, aChain, aNot, aAnd, aOr, aIfE, aAndV, aOrV, aNotV, aNil, aCons, aTup, aLst, aCall1, aCallD, aIx, aApp, aExt, aSetIx, aTru, sLen, sAny, sAll, sSum, sList, sTuple, fI, fC, fB, aSeqI, aRng1, aFor, aFrz, gN, aUnp, aLc, aYes, aCall, aRep, aRgT, turn, wipeA, br_true, br_false, List.map_nil, List.map_cons, List.nil_append, List.cons_append, List.replicate, List.getElem?_cons_zero, List.getElem?_cons_succ, List.set_cons_zero, List.set_cons_succ, List.length_cons, List.length_nil, enS_list, enS_tup, aNotT, aEnum, aRev, aAugD, sLt_int, sLt_ints, sRepT_tup, aCall2, sIsB_eq, sNotB_eq, aDnew, aSortD, ownD_own, aSda, aTupD, datAt_dat, sAllD, aSortSetI, isN_int, notN_int, sIn_int, sNotIn_int, sEq_int, sNe_int, sEq_bool, sNe_bool, sEq_str]
        have hm6 : (if 6 < countF rows key then 6 else countF rows key) ≤ 6 ∧ (if 6 < countF rows key then 6 else countF rows key) ≤ countF rows key := by
          split <;> omega
        have hm0 : 0 ≤ (if 6 < countF rows key then 6 else countF rows key) := by
          have := count_one hT
          split <;> omega
        generalize (if 6 < countF rows key then 6 else countF rows key) = m at hm6 hm0
        have hn6 : (if 6 < countF other [0] then 6 else countF other [0]) ≤ 6 ∧ (if 6 < countF other [0] then 6 else countF other [0]) ≤ countF other [0] := by
          split <;> omega
        have hn0 : 0 ≤ (if 6 < countF other [0] then 6 else countF other [0]) := by
          have := count_one hTo
          split <;> omega
        refine ⟨by omega, by omega, trivial, fun _ => trivial, ?_⟩
        rw [rangeD0]
        refine for_inv (enc := fun (q : Nat) => PyData.int (q : Int)) (fun pre ρ => ∃ (x13 x22 x25 : Option AV), ρ = [some (.own (some 0) (.lst (tape ns t l s))), some (.dat (.int (wd : Int))), some (.dat (eR rows)), some (.dat (tI key)), some (.dat (.int (countF rows key))), some (.dat (.tuple ((groupsF rows key).map eR))), some (.dat (eQ q)), some (.dat (kind)), some (.dat (.int c)), some (.dat (.int (lowF c wd (groupsF rows key)))), some (.dat (.int (highF c wd (groupsF rows key)))), x11, x12, x13, x14, x15, some (.dat (tI row)), some (.dat (eR more)), some (.dat (tI wide)), some (.dat (eR other)), some (.dat (.int o)), some (.dat (.none)), x22, none, none, x25, none]) ⟨none, none, none, rfl⟩ ?_ ?_
        · rintro pre a post e ρ ⟨x13, x22, x25, rfl⟩ Kn2 kn2
          have ha : (a : Int) < countF rows key := by
            have : a ∈ List.range m.toNat := by rw [e]; simp
            have := List.mem_range.mp this
            omega
          simp only [aName_eq, nm_dat, nm_own, dd_dat, dd_own, bb_bool, arg_dat, arg_own, arg_ali, das_nil, das_dat, cont_list, cont_tup, cont_own, cont_ali, contS_own, ownL_own, ownO_own, stor_dat, stor_own, iD_int, ii_int, i1_int, sAddU_int, sAddU_tup, truS_none, truS_bool, truS_int, truS_list, truS_tup, truS_ali, srcOf_list, srcOf_tup, srcOf_ali, Ab.got_some, gZ_nil, gC_cons, gT_tup, onlyDat_dat, notAli_dat, notAli_own, getO_some, fin_none, fin_some, finO_own, callA_nil, callA_dat, callA_ali, argS_none, argS_some, rt_ad, nx_ad, isN_none, isN_tup, notN_none, notN_tup, aNx, aRet, aIf, aSet, aAug, aDrop, aNever, aC, aBin, aBinR, aUn, aTst, aChain, aNot, aAnd, aOr, aIfE, aAndV, aOrV, aNotV, aNil, aCons, aTup, aLst, aCall1, aCallD, aIx, aApp, aExt, aSetIx, aTru, sLen, sAny, sAll, sSum, sList, sTuple, fI, fC, fB, aSeqI, aRng1, aFor, aFrz, gN, aUnp, aLc, aYes, aCall, aRep, aRgT, turn, wipeA, br_true, br_false, List.map_nil, List.map_cons, List.nil_append, List.cons_append, List.replicate, List.getElem?_cons_zero, List.getElem?_cons_succ, List.set_cons_zero, List.set_cons_succ, List.length_cons, List.length_nil, enS_list, enS_tup, aNotT, aEnum, aRev, aAugD, sLt_int, sLt_ints, sRepT_tup, aCall2, sIsB_eq, sNotB_eq, aDnew, aSortD, ownD_own, aSda, aTupD, datAt_dat, sAllD, aSortSetI, isN_int, notN_int, sIn_int, sNotIn_int, sEq_int, sNe_int, sEq_bool, sNe_bool, sEq_str, aSeq]
          refine ⟨wd, rows, key, (a : Int), rfl, rfl, hT, by omega, ha, rfl, ?_⟩
          have hx := mendF_ch (a : Int) hneA
          have hxl := hx.len
          have hxw : ∀ r ∈ mendF (groupsF rows key) (a : Int), r.length = wd := fun r hr => by
            obtain ⟨g, h1, h2⟩ := hx.mem r hr
            exact (hgk g h1).wid r h2
          simp only [eR, aName_eq, nm_dat, nm_own, dd_dat, dd_own, bb_bool, arg_dat, arg_own, arg_ali, das_nil, das_dat, cont_list, cont_tup, cont_own, cont_ali, contS_own, ownL_own, ownO_own, stor_dat, stor_own, iD_int, ii_int, i1_int, sAddU_int, sAddU_tup, truS_none, truS_bool, truS_int, truS_list, truS_tup, truS_ali, srcOf_list, srcOf_tup, srcOf_ali, Ab.got_some, gZ_nil, gC_cons, gT_tup, onlyDat_dat, notAli_dat, notAli_own, getO_some, fin_none, fin_some, finO_own, callA_nil, callA_dat, callA_ali, argS_none, argS_some, rt_ad, nx_ad, isN_none, isN_tup, notN_none, notN_tup, aNx, aRet, aIf, aSet, aAug, aDrop, aNever, aC, aBin, aBinR, aUn, aTst, aChain, aNot, aAnd, aOr, aIfE, aAndV, aOrV, aNotV, aNil, aCons, aTup, aLst, aCall1, aCallD, aIx, aApp, aExt, aSetIx, aTru, sLen, sAny, sAll, sSum, sList, sTuple, fI, fC, fB, aSeqI, aRng1, aFor, aFrz, gN, aUnp, aLc, aYes, aCall, aRep, aRgT, turn, wipeA, br_true, br_false, List.map_nil, List.map_cons, List.nil_append, List.cons_append, List.replicate, List.getElem?_cons_zero, List.getElem?_cons_succ, List.set_cons_zero, List.set_cons_succ, List.length_cons, List.length_nil, enS_list, enS_tup, aNotT, aEnum, aRev, aAugD, sLt_int, sLt_ints, sRepT_tup, aCall2, sIsB_eq, sNotB_eq, aDnew, aSortD, ownD_own, aSda, aTupD, datAt_dat, sAllD, aSortSetI, isN_int, notN_int, sIn_int, sNotIn_int, sEq_int, sNe_int, sEq_bool, sNe_bool, sEq_str, aSeq]
          refine lc_map (enc := tI) (fun r => .int (col c r)) trivial (by simp [Ab.freeOf]) (small_len (by omega)) (fun r hr Ka Ks ka => ?_) ?_
          · have q1 : atI (r.map PyData.int) c = some (.int (col c r)) := atI_nn c0 (by rw [hxw r hr]; exact c1)
            simp only [tI, q1, aName_eq, nm_dat, nm_own, dd_dat, dd_own, bb_bool, arg_dat, arg_own, arg_ali, das_nil, das_dat, cont_list, cont_tup, cont_own, cont_ali, contS_own, ownL_own, ownO_own, stor_dat, stor_own, iD_int, ii_int, i1_int, sAddU_int, sAddU_tup, truS_none, truS_bool, truS_int, truS_list, truS_tup, truS_ali, srcOf_list, srcOf_tup, srcOf_ali, Ab.got_some, gZ_nil, gC_cons, gT_tup, onlyDat_dat, notAli_dat, notAli_own, getO_some, fin_none, fin_some, finO_own, callA_nil, callA_dat, callA_ali, argS_none, argS_some, rt_ad, nx_ad, isN_none, isN_tup, notN_none, notN_tup, aNx, aRet, aIf, aSet, aAug, aDrop, aNever, aC, aBin, aBinR, aUn, aTst, aChain, aNot, aAnd, aOr, aIfE, aAndV, aOrV, aNotV, aNil, aCons, aTup, aLst, aCall1, aCallD, aIx, aApp, aExt, aSetIx, aTru, sLen, sAny, sAll, sSum, sList, sTuple, fI, fC, fB, aSeqI, aRng1, aFor, aFrz, gN, aUnp, aLc, aYes, aCall, aRep, aRgT, turn, wipeA, br_true, br_false, List.map_nil, List.map_cons, List.nil_append, List.cons_append, List.replicate, List.getElem?_cons_zero, List.getElem?_cons_succ, List.set_cons_zero, List.set_cons_succ, List.length_cons, List.length_nil, enS_list, enS_tup, aNotT, aEnum, aRev, aAugD, sLt_int, sLt_ints, sRepT_tup, aCall2, sIsB_eq, sNotB_eq, aDnew, aSortD, ownD_own, aSda, aTupD, datAt_dat, sAllD, aSortSetI, isN_int, notN_int, sIn_int, sNotIn_int, sEq_int, sNe_int, sEq_bool, sNe_bool, sEq_str, aSeq]
            exact ka
          · rw [show ((mendF (groupsF rows key) (a : Int)).map fun r => PyData.int (col c r)) = ((mendF (groupsF rows key) (a : Int)).map (col c)).map PyData.int by rw [List.map_map]; rfl]
            simp only [aName_eq, nm_dat, nm_own, dd_dat, dd_own, bb_bool, arg_dat, arg_own, arg_ali, das_nil, das_dat, cont_list, cont_tup, cont_own, cont_ali, contS_own, ownL_own, ownO_own, stor_dat, stor_own, iD_int, ii_int, i1_int, sAddU_int, sAddU_tup, truS_none, truS_bool, truS_int, truS_list, truS_tup, truS_ali, srcOf_list, srcOf_tup, srcOf_ali, Ab.got_some, gZ_nil, gC_cons, gT_tup, onlyDat_dat, notAli_dat, notAli_own, getO_some, fin_none, fin_some, finO_own, callA_nil, callA_dat, callA_ali, argS_none, argS_some, rt_ad, nx_ad, isN_none, isN_tup, notN_none, notN_tup, aNx, aRet, aIf, aSet, aAug, aDrop, aNever, aC, aBin, aBinR, aUn, aTst, aChain, aNot, aAnd, aOr, aIfE, aAndV, aOrV, aNotV, aNil, aCons, aTup, aLst, aCall1, aCallD, aIx, aApp, aExt, aSetIx, aTru, sLen, sAny, sAll, sSum, sList, sTuple, fI, fC, fB, aSeqI, aRng1, aFor, aFrz, gN, aUnp, aLc, aYes, aCall, aRep, aRgT, turn, wipeA, br_true, br_false, List.map_nil, List.map_cons, List.nil_append, List.cons_append, List.replicate, List.getElem?_cons_zero, List.getElem?_cons_succ, List.set_cons_zero, List.set_cons_succ, List.length_cons, List.length_nil, enS_list, enS_tup, aNotT, aEnum, aRev, aAugD, sLt_int, sLt_ints, sRepT_tup, aCall2, sIsB_eq, sNotB_eq, aDnew, aSortD, ownD_own, aSda, aTupD, datAt_dat, sAllD, aSortSetI, isN_int, notN_int, sIn_int, sNotIn_int, sEq_int, sNe_int, sEq_bool, sNe_bool, sEq_str, aSeq]
            refine ⟨small_le (by decide), 2, other, [0], rfl, rfl, hTo, rfl, ?_⟩
            simp only [aName_eq, nm_dat, nm_own, dd_dat, dd_own, bb_bool, arg_dat, arg_own, arg_ali, das_nil, das_dat, cont_list, cont_tup, cont_own, cont_ali, contS_own, ownL_own, ownO_own, stor_dat, stor_own, iD_int, ii_int, i1_int, sAddU_int, sAddU_tup, truS_none, truS_bool, truS_int, truS_list, truS_tup, truS_ali, srcOf_list, srcOf_tup, srcOf_ali, Ab.got_some, gZ_nil, gC_cons, gT_tup, onlyDat_dat, notAli_dat, notAli_own, getO_some, fin_none, fin_some, finO_own, callA_nil, callA_dat, callA_ali, argS_none, argS_some, rt_ad, nx_ad, isN_none, isN_tup, notN_none, notN_tup, aNx, aRet, aIf, aSet, aAug, aDrop, aNever, aC, aBin, aBinR, aUn, aTst, aChain, aNot, aAnd, aOr, aIfE, aAndV, aOrV, aNotV, aNil, aCons, aTup, aLst, aCall1, aCallD, aIx, aApp, aExt, aSetIx, aTru, sLen, sAny, sAll, sSum, sList, sTuple, fI, fC, fB, aSeqI, aRng1, aFor, aFrz, gN, aUnp, aLc, aYes, aCall, aRep, aRgT, turn, wipeA, br_true, br_false, List.map_nil, List.map_cons, List.nil_append, List.cons_append, List.replicate, List.getElem?_cons_zero, List.getElem?_cons_succ, List.set_cons_zero, List.set_cons_succ, List.length_cons, List.length_nil, enS_list, enS_tup, aNotT, aEnum, aRev, aAugD, sLt_int, sLt_ints, sRepT_tup, aCall2, sIsB_eq, sNotB_eq, aDnew, aSortD, ownD_own, aSda, aTupD, datAt_dat, sAllD, aSortSetI, isN_int, notN_int, sIn_int, sNotIn_int, sEq_int, sNe_int, sEq_bool, sNe_bool, sEq_str, aSeq]
            generalize (if 6 < countF other [0] then 6 else countF other [0]) = n at hn6 hn0
            refine ⟨by omega, by omega, trivial, fun _ => trivial, ?_⟩
            rw [rangeD0]
            refine for_inv (enc := fun (q : Nat) => PyData.int (q : Int)) (fun pre ρ => ∃ (x25 : Option AV), ρ = [some (.own (some 0) (.lst (tape ns t l s))), some (.dat (.int (wd : Int))), some (.dat (eR rows)), some (.dat (tI key)), some (.dat (.int (countF rows key))), some (.dat (.tuple ((groupsF rows key).map eR))), some (.dat (eQ q)), some (.dat (kind)), some (.dat (.int c)), some (.dat (.int (lowF c wd (groupsF rows key)))), some (.dat (.int (highF c wd (groupsF rows key)))), x11, x12, some (.dat (.int (a : Int))), x14, x15, some (.dat (tI row)), some (.dat (eR more)), some (.dat (tI wide)), some (.dat (eR other)), some (.dat (.int o)), some (.dat (.none)), some (.own none (.lst (((mendF (groupsF rows key) (a : Int)).map (col c)).map PyData.int))), none, none, x25, none]) ⟨_, rfl⟩ ?_ ?_
            · rintro pre2 b post2 e2 ρ ⟨x25, rfl⟩ Kn3 kn3
              have hb : (b : Int) < countF other [0] := by
                have : b ∈ List.range n.toNat := by rw [e2]; simp
                have := List.mem_range.mp this
                omega
              simp only [aName_eq, nm_dat, nm_own, dd_dat, dd_own, bb_bool, arg_dat, arg_own, arg_ali, das_nil, das_dat, cont_list, cont_tup, cont_own, cont_ali, contS_own, ownL_own, ownO_own, stor_dat, stor_own, iD_int, ii_int, i1_int, sAddU_int, sAddU_tup, truS_none, truS_bool, truS_int, truS_list, truS_tup, truS_ali, srcOf_list, srcOf_tup, srcOf_ali, Ab.got_some, gZ_nil, gC_cons, gT_tup, onlyDat_dat, notAli_dat, notAli_own, getO_some, fin_none, fin_some, finO_own, callA_nil, callA_dat, callA_ali, argS_none, argS_some, rt_ad, nx_ad, isN_none, isN_tup, notN_none, notN_tup, aNx, aRet, aIf, aSet, aAug, aDrop, aNever, aC, aBin, aBinR, aUn, aTst, aChain, aNot, aAnd, aOr, aIfE, aAndV, aOrV, aNotV, aNil, aCons, aTup, aLst, aCall1, aCallD, aIx, aApp, aExt, aSetIx, aTru, sLen, sAny, sAll, sSum, sList, sTuple, fI, fC, fB, aSeqI, aRng1, aFor, aFrz, gN, aUnp, aLc, aYes, aCall, aRep, aRgT, turn, wipeA, br_true, br_false, List.map_nil, List.map_cons, List.nil_append, List.cons_append, List.replicate, List.getElem?_cons_zero, List.getElem?_cons_succ, List.set_cons_zero, List.set_cons_succ, List.length_cons, List.length_nil, enS_list, enS_tup, aNotT, aEnum, aRev, aAugD, sLt_int, sLt_ints, sRepT_tup, aCall2, sIsB_eq, sNotB_eq, aDnew, aSortD, ownD_own, aSda, aTupD, datAt_dat, sAllD, aSortSetI, isN_int, notN_int, sIn_int, sNotIn_int, sEq_int, sNe_int, sEq_bool, sNe_bool, sEq_str, aSeq]
              refine ⟨small_le (by decide), 2, other, [0], (b : Int), rfl, rfl, hTo, by omega, hb, rfl, ?_⟩
              have hy := mendF_ch (b : Int) hneB
              have hyl := hy.len
              have hyw : ∀ r ∈ mendF (groupsF other [0]) (b : Int), r.length = 2 := fun r hr => by
                obtain ⟨g, h1, h2⟩ := hy.mem r hr
                exact (hgo g h1).wid r h2
              simp only [eR, aName_eq, nm_dat, nm_own, dd_dat, dd_own, bb_bool, arg_dat, arg_own, arg_ali, das_nil, das_dat, cont_list, cont_tup, cont_own, cont_ali, contS_own, ownL_own, ownO_own, stor_dat, stor_own, iD_int, ii_int, i1_int, sAddU_int, sAddU_tup, truS_none, truS_bool, truS_int, truS_list, truS_tup, truS_ali, srcOf_list, srcOf_tup, srcOf_ali, Ab.got_some, gZ_nil, gC_cons, gT_tup, onlyDat_dat, notAli_dat, notAli_own, getO_some, fin_none, fin_some, finO_own, callA_nil, callA_dat, callA_ali, argS_none, argS_some, rt_ad, nx_ad, isN_none, isN_tup, notN_none, notN_tup, aNx, aRet, aIf, aSet, aAug, aDrop, aNever, aC, aBin, aBinR, aUn, aTst, aChain, aNot, aAnd, aOr, aIfE, aAndV, aOrV, aNotV, aNil, aCons, aTup, aLst, aCall1, aCallD, aIx, aApp, aExt, aSetIx, aTru, sLen, sAny, sAll, sSum, sList, sTuple, fI, fC, fB, aSeqI, aRng1, aFor, aFrz, gN, aUnp, aLc, aYes, aCall, aRep, aRgT, turn, wipeA, br_true, br_false, List.map_nil, List.map_cons, List.nil_append, List.cons_append, List.replicate, List.getElem?_cons_zero, List.getElem?_cons_succ, List.set_cons_zero, List.set_cons_succ, List.length_cons, List.length_nil, enS_list, enS_tup, aNotT, aEnum, aRev, aAugD, sLt_int, sLt_ints, sRepT_tup, aCall2, sIsB_eq, sNotB_eq, aDnew, aSortD, ownD_own, aSda, aTupD, datAt_dat, sAllD, aSortSetI, isN_int, notN_int, sIn_int, sNotIn_int, sEq_int, sNe_int, sEq_bool, sNe_bool, sEq_str, aSeq]
              refine lc_pure (enc := tI) (fun r => decide (col o r ∈ (mendF (groupsF rows key) (a : Int)).map (col c))) (fun _ => .int 1) trivial (by simp [Ab.freeOf]) (small_len (by omega)) (fun r hr Ka Ks ka ks => ?_) ?_
              · have q1 : atI (r.map PyData.int) o = some (.int (col o r)) := atI_nn o0 (by rw [hyw r hr]; exact ho1)
                simp only [tI, q1, aName_eq, nm_dat, nm_own, dd_dat, dd_own, bb_bool, arg_dat, arg_own, arg_ali, das_nil, das_dat, cont_list, cont_tup, cont_own, cont_ali, contS_own, ownL_own, ownO_own, stor_dat, stor_own, iD_int, ii_int, i1_int, sAddU_int, sAddU_tup, truS_none, truS_bool, truS_int, truS_list, truS_tup, truS_ali, srcOf_list, srcOf_tup, srcOf_ali, Ab.got_some, gZ_nil, gC_cons, gT_tup, onlyDat_dat, notAli_dat, notAli_own, getO_some, fin_none, fin_some, finO_own, callA_nil, callA_dat, callA_ali, argS_none, argS_some, rt_ad, nx_ad, isN_none, isN_tup, notN_none, notN_tup, aNx, aRet, aIf, aSet, aAug, aDrop, aNever, aC, aBin, aBinR, aUn, aTst, aChain, aNot, aAnd, aOr, aIfE, aAndV, aOrV, aNotV, aNil, aCons, aTup, aLst, aCall1, aCallD, aIx, aApp, aExt, aSetIx, aTru, sLen, sAny, sAll, sSum, sList, sTuple, fI, fC, fB, aSeqI, aRng1, aFor, aFrz, gN, aUnp, aLc, aYes, aCall, aRep, aRgT, turn, wipeA, br_true, br_false, List.map_nil, List.map_cons, List.nil_append, List.cons_append, List.replicate, List.getElem?_cons_zero, List.getElem?_cons_succ, List.set_cons_zero, List.set_cons_succ, List.length_cons, List.length_nil, enS_list, enS_tup, aNotT, aEnum, aRev, aAugD, sLt_int, sLt_ints, sRepT_tup, aCall2, sIsB_eq, sNotB_eq, aDnew, aSortD, ownD_own, aSda, aTupD, datAt_dat, sAllD, aSortSetI, isN_int, notN_int, sIn_int, sNotIn_int, sEq_int, sNe_int, sEq_bool, sNe_bool, sEq_str, aSeq]
                exact ⟨ka, ks⟩
              · have e0 : decide ((((mendF (groupsF other [0]) (b : Int)).filter fun r => decide (col o r ∈ (mendF (groupsF rows key) (a : Int)).map (col c))).length : Int) = 0) = false := by
                  obtain ⟨r, hr, s, hs, e⟩ := hno _ _ hx hy
                  have : s ∈ (mendF (groupsF other [0]) (b : Int)).filter fun r => decide (col o r ∈ (mendF (groupsF rows key) (a : Int)).map (col c)) := List.mem_filter.mpr ⟨hs, decide_eq_true (List.mem_map.mpr ⟨r, hr, e⟩)⟩
                  have := List.length_pos_of_mem this
                  exact decide_eq_false (by omega)
                simp only [List.length_map, e0, aName_eq, nm_dat, nm_own, dd_dat, dd_own, bb_bool, arg_dat, arg_own, arg_ali, das_nil, das_dat, cont_list, cont_tup, cont_own, cont_ali, contS_own, ownL_own, ownO_own, stor_dat, stor_own, iD_int, ii_int, i1_int, sAddU_int, sAddU_tup, truS_none, truS_bool, truS_int, truS_list, truS_tup, truS_ali, srcOf_list, srcOf_tup, srcOf_ali, Ab.got_some, gZ_nil, gC_cons, gT_tup, onlyDat_dat, notAli_dat, notAli_own, getO_some, fin_none, fin_some, finO_own, callA_nil, callA_dat, callA_ali, argS_none, argS_some, rt_ad, nx_ad, isN_none, isN_tup, notN_none, notN_tup, aNx, aRet, aIf, aSet, aAug, aDrop, aNever, aC, aBin, aBinR, aUn, aTst, aChain, aNot, aAnd, aOr, aIfE, aAndV, aOrV, aNotV, aNil, aCons, aTup, aLst, aCall1, aCallD, aIx, aApp, aExt, aSetIx, aTru, sLen, sAny, sAll, sSum, sList, sTuple, fI, fC, fB, aSeqI, aRng1, aFor, aFrz, gN, aUnp, aLc, aYes, aCall, aRep, aRgT, turn, wipeA, br_true, br_false, List.map_nil, List.map_cons, List.nil_append, List.cons_append, List.replicate, List.getElem?_cons_zero, List.getElem?_cons_succ, List.set_cons_zero, List.set_cons_succ, List.length_cons, List.length_nil, enS_list, enS_tup, aNotT, aEnum, aRev, aAugD, sLt_int, sLt_ints, sRepT_tup, aCall2, sIsB_eq, sNotB_eq, aDnew, aSortD, ownD_own, aSda, aTupD, datAt_dat, sAllD, aSortSetI, isN_int, notN_int, sIn_int, sNotIn_int, sEq_int, sNe_int, sEq_bool, sNe_bool, sEq_str, aSeq]
                exact kn3 _ ⟨_, rfl⟩
            · rintro ρ ⟨x25, rfl⟩
              exact kn2 _ ⟨_, _, _, rfl⟩
        · rintro ρ ⟨x13, x22, x25, rfl⟩
          exact kn _ ⟨_, _, _, rfl⟩
    rintro ρ ⟨x13, x22, x25, rfl⟩
    refine cut1 [some (.own (some 0) (.lst (tape ns t l s))), some (.dat (.int (wd : Int))), some (.dat (eR rows)), some (.dat (tI key)), some (.dat (.int (countF rows key))), some (.dat (.tuple ((groupsF rows key).map eR))), some (.dat (eQ q)), some (.dat (kind)), some (.dat (.int c)), some (.dat (.int (lowF c wd (groupsF rows key)))), some (.dat (.int (highF c wd (groupsF rows key)))), x11, x12, x13, x14, x15, some (.dat (tI row)), some (.dat (eR more)), some (.dat (tI wide)), some (.dat (eR other)), some (.dat (.int o)), some (.dat (eApart (apartF (groupsF rows key) (groupsF other [0]) c o))), x22, none, none, x25, some (.dat (eApart (apartF (groupsF other [0]) (groupsF rows key) o c)))] (fun Kn kn => ?_) ?_
    · simp only [aName_eq, nm_dat, nm_own, dd_dat, dd_own, bb_bool, arg_dat, arg_own, arg_ali, das_nil, das_dat, cont_list, cont_tup, cont_own, cont_ali, contS_own, ownL_own, ownO_own, stor_dat, stor_own, iD_int, ii_int, i1_int, sAddU_int, sAddU_tup, truS_none, truS_bool, truS_int, truS_list, truS_tup, truS_ali, srcOf_list, srcOf_tup, srcOf_ali, Ab.got_some, gZ_nil, gC_cons, gT_tup, onlyDat_dat, notAli_dat, notAli_own, getO_some, fin_none, fin_some, finO_own, callA_nil, callA_dat, callA_ali, argS_none, argS_some, rt_ad, nx_ad, isN_none, isN_tup, notN_none, notN_tup, aNx, aRet, aIf, aSet, aAug, aDrop, aNever, aC, aBin, aBinR, aUn, aTst, aChain, aNot, aAnd, aOr, aIfE, aAndV, aOrV, aNotV, aNil, aCons, aTup, aLst, aCall1, aCallD, aIx, aApp, aExt, aSetIx, aTru, sLen, sAny, sAll, sSum, sList, sTuple, fI, fC, fB, aSeqI, aRng1, aFor, aFrz, gN, aUnp, aLc, aYes, aCall, aRep, aRgT, turn, wipeA, br_true, br_false, List.map_nil, List.map_cons, List.nil_append, List.cons_append, List.replicate, List.getElem?_cons_zero, List.getElem?_cons_succ, List.set_cons_zero, List.set_cons_succ, List.length_cons, List.length_nil, enS_list, enS_tup, aNotT, aEnum, aRev, aAugD, sLt_int, sLt_ints, sRepT_tup, aCall2, sIsB_eq, sNotB_eq, aDnew, aSortD, ownD_own, aSda, aTupD, datAt_dat, sAllD, aSortSetI, isN_int, notN_int, sIn_int, sNotIn_int, sEq_int, sNe_int, sEq_bool, sNe_bool, sEq_str]
      refine ⟨small_le (by decide), 2, wd, other, [0], rows, key, o, c, rfl, rfl, hTo, hT, o0, ho1, c0, c1, hB5, rfl, ?_⟩
      simp only [aName_eq, nm_dat, nm_own, dd_dat, dd_own, bb_bool, arg_dat, arg_own, arg_ali, das_nil, das_dat, cont_list, cont_tup, cont_own, cont_ali, contS_own, ownL_own, ownO_own, stor_dat, stor_own, iD_int, ii_int, i1_int, sAddU_int, sAddU_tup, truS_none, truS_bool, truS_int, truS_list, truS_tup, truS_ali, srcOf_list, srcOf_tup, srcOf_ali, Ab.got_some, gZ_nil, gC_cons, gT_tup, onlyDat_dat, notAli_dat, notAli_own, getO_some, fin_none, fin_some, finO_own, callA_nil, callA_dat, callA_ali, argS_none, argS_some, rt_ad, nx_ad, isN_none, isN_tup, notN_none, notN_tup, aNx, aRet, aIf, aSet, aAug, aDrop, aNever, aC, aBin, aBinR, aUn, aTst, aChain, aNot, aAnd, aOr, aIfE, aAndV, aOrV, aNotV, aNil, aCons, aTup, aLst, aCall1, aCallD, aIx, aApp, aExt, aSetIx, aTru, sLen, sAny, sAll, sSum, sList, sTuple, fI, fC, fB, aSeqI, aRng1, aFor, aFrz, gN, aUnp, aLc, aYes, aCall, aRep, aRgT, turn, wipeA, br_true, br_false, List.map_nil, List.map_cons, List.nil_append, List.cons_append, List.replicate, List.getElem?_cons_zero, List.getElem?_cons_succ, List.set_cons_zero, List.set_cons_succ, List.length_cons, List.length_nil, enS_list, enS_tup, aNotT, aEnum, aRev, aAugD, sLt_int, sLt_ints, sRepT_tup, aCall2, sIsB_eq, sNotB_eq, aDnew, aSortD, ownD_own, aSda, aTupD, datAt_dat, sAllD, aSortSetI, isN_int, notN_int, sIn_int, sNotIn_int, sEq_int, sNe_int, sEq_bool, sNe_bool, sEq_str]
      exact kn
    simp only [isN_apart, aName_eq, nm_dat, nm_own, dd_dat, dd_own, bb_bool, arg_dat, arg_own, arg_ali, das_nil, das_dat, cont_list, cont_tup, cont_own, cont_ali, contS_own, ownL_own, ownO_own, stor_dat, stor_own, iD_int, ii_int, i1_int, sAddU_int, sAddU_tup, truS_none, truS_bool, truS_int, truS_list, truS_tup, truS_ali, srcOf_list, srcOf_tup, srcOf_ali, Ab.got_some, gZ_nil, gC_cons, gT_tup, onlyDat_dat, notAli_dat, notAli_own, getO_some, fin_none, fin_some, finO_own, callA_nil, callA_dat, callA_ali, argS_none, argS_some, rt_ad, nx_ad, isN_none, isN_tup, notN_none, notN_tup, aNx, aRet, aIf, aSet, aAug, aDrop, aNever, aC, aBin, aBinR, aUn, aTst, aChain, aNot, aAnd, aOr, aIfE, aAndV, aOrV, aNotV, aNil, aCons, aTup, aLst, aCall1, aCallD, aIx, aApp, aExt, aSetIx, aTru, sLen, sAny, sAll, sSum, sList, sTuple, fI, fC, fB, aSeqI, aRng1, aFor, aFrz, gN, aUnp, aLc, aYes, aCall, aRep, aRgT, turn, wipeA, br_true, br_false, List.map_nil, List.map_cons, List.nil_append, List.cons_append, List.replicate, List.getElem?_cons_zero, List.getElem?_cons_succ, List.set_cons_zero, List.set_cons_succ, List.length_cons, List.length_nil, enS_list, enS_tup, aNotT, aEnum, aRev, aAugD, sLt_int, sLt_ints, sRepT_tup, aCall2, sIsB_eq, sNotB_eq, aDnew, aSortD, ownD_own, aSda, aTupD, datAt_dat, sAllD, aSortSetI, isN_int, notN_int, sIn_int, sNotIn_int, sEq_int, sNe_int, sEq_bool, sNe_bool, sEq_str]
    have hb := apart_back (g1 := groupsF rows key) (g2 := groupsF other [0]) (c := c) (o := o)
    have hb2 : ((apartF (groupsF other [0]) (groupsF rows key) o c).isNone == (apartF (groupsF rows key) (groupsF other [0]) c o).isNone) = true := by
      rw [beq_iff_eq, Bool.eq_iff_iff, Option.isNone_iff_eq_none, Option.isNone_iff_eq_none]
      exact hb
    rw [hb2]
    exact k _
end
end K69

set_option maxHeartbeats 4000000
namespace K69
open PySem PySem.Spec PyProof.Rows L2 Ab
/-- a question that a row does not answer at a place -/
def offAt (q : Ques) (r : Row) (j : Nat) : Bool := match q.getD j none with
  | none => false
  | some v => !decide (r.getD j 0 = v)
theorem off_fits {q : Ques} {r : Row} {wd : Nat} (h : q.length = wd) : decide ((((List.range wd).filter (offAt q r)).length : Int) = 0) = fitsF q r := by
  rw [Bool.eq_iff_iff, decide_eq_true_eq]
  unfold fitsF
  rw [List.all_eq_true]
  constructor
  · intro z
    have z : (List.range wd).filter (offAt q r) = [] := List.length_eq_zero_iff.mp (by omega)
    rintro ⟨j, w⟩ hp
    obtain ⟨_, h2⟩ := enumL_mem hp
    have h2 : q[j]? = some w := h2
    have hj : j < wd := by
      have := (List.getElem?_eq_some_iff.mp h2).1
      omega
    have := List.filter_eq_nil_iff.mp z j (List.mem_range.mpr hj)
    unfold offAt at this
    have hd : q.getD j none = w := by rw [List.getD_eq_getElem?_getD, h2]; rfl
    rw [hd] at this
    cases w with
    | none => rfl
    | some v =>
      show decide (r.getD j 0 = v) = true
      simpa using this
  · intro z
    have : (List.range wd).filter (offAt q r) = [] := by
      rw [List.filter_eq_nil_iff]
      intro j hj
      have hj := List.mem_range.mp hj
      have hm : (j, q.getD j none) ∈ enumL 0 q := by
        have hl : j < q.length := by omega
        have hx : enumL 0 q = enumL 0 (q.take j ++ q.getD j none :: q.drop (j + 1)) := by
          congr 1
          rw [getD_mem hl, List.getElem_cons_drop hl, List.take_append_drop]
        rw [hx, enumL_app]
        refine List.mem_append_right _ ?_
        have hlt : (q.take j).length = j := by rw [List.length_take]; omega
        rw [hlt, Nat.zero_add]
        exact List.mem_cons_self
      have := z _ hm
      unfold offAt
      unfold fit1 at this
      cases hw : q.getD j none with
      | none => simp
      | some v =>
        rw [hw] at this
        simpa using this
    rw [this]
    rfl
theorem pos_any {α : Type} {p : α → Bool} {l : List α} : decide ((0 : Int) < ((l.filter p).length : Int)) = l.any p := by
  rw [Bool.eq_iff_iff, decide_eq_true_eq, List.any_eq_true]
  constructor
  · intro h
    obtain ⟨x, hx⟩ := List.exists_mem_of_length_pos (l := l.filter p) (by omega)
    exact ⟨x, List.mem_filter.mp hx⟩
  · rintro ⟨x, h1, h2⟩
    have := List.length_pos_of_mem (List.mem_filter.mpr ⟨h1, h2⟩)
    omega
section
variable {P : Program} {w : World} {K : PySem.W.Frag} {mg : Str → Option Value} {base : Heap}
theorem ok_law (D : Defs K mg) : FnOk P w K mg base CX0 6 D.f_law D.fd_law ["script"] (toSp K sp_law) := by
  have G__law_begin : FnOk P w K mg base CX0 1 D.f__law_begin D.fd__law_begin ["script"] (toSp K sp__law_begin) := ok__law_begin D
  have G__law_take : FnOk P w K mg base CX0 1 D.f__law_take D.fd__law_take ["d", "many"] (toSp K sp__law_take) := ok__law_take D
  have G__law_rows : FnOk P w K mg base CX0 2 D.f__law_rows D.fd__law_rows ["d", "width"] (toSp K sp__law_rows) := ok__law_rows D
  have G_count : FnOk P w K mg base CX0 2 D.f_count D.fd_count ["rows", "key"] (toSp K sp_count) := ok_count D
  have G_groups : FnOk P w K mg base CX0 2 D.f_groups D.fd_groups ["rows", "key"] (toSp K sp_groups) := ok_groups D
  have G_is_mending : FnOk P w K mg base CX0 2 D.f_is_mending D.fd_is_mending ["rows", "key", "kept"] (toSp K sp_is_mending) := ok_is_mending D
  have G_mending_at : FnOk P w K mg base CX0 3 D.f_mending_at D.fd_mending_at ["rows", "key", "number"] (toSp K sp_mending_at) := ok_mending_at D
  have G_chance : FnOk P w K mg base CX0 3 D.f_chance D.fd_chance ["rows", "key", "question"] (toSp K sp_chance) := ok_chance D
  have G_is_sure : FnOk P w K mg base CX0 3 D.f_is_sure D.fd_is_sure ["rows", "key", "question"] (toSp K sp_is_sure) := ok_is_sure D
  have G_counts : FnOk P w K mg base CX0 3 D.f_counts D.fd_counts ["rows", "key", "question"] (toSp K sp_counts) := ok_counts D
  have G_sums : FnOk P w K mg base CX0 2 D.f_sums D.fd_sums ["rows", "key", "column"] (toSp K sp_sums) := ok_sums D
  have G__law_part1 : FnOk P w K mg base CX0 5 D.f__law_part1 D.fd__law_part1 ["d", "width", "rows", "key", "many", "parts", "question", "kind", "column"] (toSp K sp__law_part1) := ok__law_part1 D
  refine ok_def D.F_law sc_law (fun oo ds Kc h => ?_) (fun cdv A outer s H E hr =>
      (ss_cons (s_set (ps_set (i := 1) sc_law.nd rfl (.inr rfl) (e_call G__law_begin (hr.mono (by decide)) (by rfl) D.g__law_begin D.F__law_begin.kp D.n__law_begin (x_cons (e_name (pv 0)) x_nil))))
      (ss_cons (s_set (ps_set (i := 2) sc_law.nd rfl (.inr rfl) (e_op op_addU dr_addU e_int (e_call G__law_take (hr.mono (by decide)) (by rfl) D.g__law_take D.F__law_take.kp D.n__law_take (x_cons (e_name (pv 1)) (x_cons e_int x_nil))))))
      (ss_cons (s_set (ps_set (i := 3) sc_law.nd rfl (.inr rfl) (e_call G__law_rows (hr.mono (by decide)) (by rfl) D.g__law_rows D.F__law_rows.kp D.n__law_rows (x_cons (e_name (pv 1)) (x_cons (e_name (pv 2)) x_nil)))))
      (ss_cons (s_set (ps_set (i := 4) sc_law.nd rfl (.inr rfl) (e_callTy call_tuple_of dc_tuple (by rfl) D.b_tuple boot_tuple (e_lc (own := [("k", 5)]) rfl sc_law.nd (i_rng1 (by rfl) D.b_range (e_name (pv 2))) (blkOk_by (by kernel_rfl)) (fun _ _ _ _ _ => (g_name (pg_name (i := 5) sc_law.nd rfl (by first | exact Or.inl rfl | exact Or.inr rfl)))) (fun _ _ _ _ _ => (ts_one (t_cmp (op_eqP hr.units) dr_eq (e_call G__law_take (hr.mono (by decide)) (by rfl) D.g__law_take D.F__law_take.kp D.n__law_take (x_cons (e_name (pv 1)) (x_cons e_int x_nil))) e_int (nomark _)))) (fun _ _ _ _ _ => (e_name (pv 5)))))))
      (ss_cons (s_set (ps_set (i := 6) sc_law.nd rfl (.inl rfl) (e_call G_count (hr.mono (by decide)) (by rfl) D.g_count D.F_count.kp D.n_count (x_cons (e_name (pv 3)) (x_cons (e_name (pv 4)) x_nil)))))
      (ss_cons (s_set (ps_set (i := 7) sc_law.nd rfl (.inl rfl) (e_call G_groups (hr.mono (by decide)) (by rfl) D.g_groups D.F_groups.kp D.n_groups (x_cons (e_name (pv 3)) (x_cons (e_name (pv 4)) x_nil)))))
      (ss_cons (s_set (ps_set (i := 8) sc_law.nd rfl (.inl rfl) e_int))
      (ss_cons (s_for PassesOwn.never rfl (i_seq (e_name (pv 7))) (g_name (pg_name (i := 9) sc_law.nd rfl (.inl rfl))) (ss_one (s_set (ps_set (i := 8) sc_law.nd rfl (.inl rfl) (e_op op_mul dr_c (e_name (pv 8)) (e_callB call_len_seq dc_len (by rfl) D.b_len PySem.boot_len (e_name (pv 9))))))))
      (ss_cons (s_if (t_w (w_orC (t_cmp (op_neP hr.units) dr_ne (e_name (pv 6)) (e_name (pv 8)) (nomark _)) (w_or1 (t_cmp (op_neP hr.units) dr_ne (e_callB (cr_sum2 rfl) dc_sum (by rfl) D.b_sum boot_sum (e_lc (own := [("part", 9)]) rfl sc_law.nd (i_seq (e_name (pv 7))) (blkOk_by (by kernel_rfl)) (fun _ _ _ _ _ => (g_name (pg_name (i := 9) sc_law.nd rfl (by first | exact Or.inl rfl | exact Or.inr rfl)))) (fun _ _ _ _ _ => ts_nil) (fun _ _ _ _ _ => (e_callB call_len_seq dc_len (by rfl) D.b_len PySem.boot_len (e_name (pv 9)))))) (e_callB call_len_seq dc_len (by rfl) D.b_len PySem.boot_len (e_name (pv 3))) (nomark _))))) (ss_one (s_ret e_bl)) ss_nil)
      (ss_cons (s_set (ps_set (i := 10) sc_law.nd rfl (.inl rfl) (e_lst (x_cons e_int (x_cons (e_op op_sub dr_i (e_name (pv 6)) e_int) (x_cons (e_call G__law_take (hr.mono (by decide)) (by rfl) D.g__law_take D.F__law_take.kp D.n__law_take (x_cons (e_name (pv 1)) (x_cons (e_name (pv 6)) x_nil))) x_nil))))))
      (ss_cons (s_frz 10 (s_for PassesOwn.never rfl (i_seq (e_name (pv 10))) (g_name (pg_name (i := 11) sc_law.nd rfl (.inl rfl))) (ss_one (s_if (t_cmp op_notBl dr_notB (e_call G_is_mending (hr.mono (by decide)) (by rfl) D.g_is_mending D.F_is_mending.kp D.n_is_mending (x_cons (e_name (pv 3)) (x_cons (e_name (pv 4)) (x_cons (e_call G_mending_at (hr.mono (by decide)) (by rfl) D.g_mending_at D.F_mending_at.kp D.n_mending_at (x_cons (e_name (pv 3)) (x_cons (e_name (pv 4)) (x_cons (e_name (pv 11)) x_nil)))) x_nil)))) e_bl (nomark _)) (ss_one (s_ret e_bl)) ss_nil))))
      (ss_cons (s_if (t_w (w_andC (t_cmp op_gt dr_b (e_name (pv 6)) e_int (nomark _)) (w_and1 (t_not (t_cmp (op_ltP hr.units) dr_lt (e_call G_mending_at (hr.mono (by decide)) (by rfl) D.g_mending_at D.F_mending_at.kp D.n_mending_at (x_cons (e_name (pv 3)) (x_cons (e_name (pv 4)) (x_cons e_int x_nil)))) (e_call G_mending_at (hr.mono (by decide)) (by rfl) D.g_mending_at D.F_mending_at.kp D.n_mending_at (x_cons (e_name (pv 3)) (x_cons (e_name (pv 4)) (x_cons e_int x_nil)))) (nomark _)))))) (ss_one (s_ret e_bl)) ss_nil)
      (ss_cons (s_set (ps_set (i := 12) sc_law.nd rfl (.inr rfl) (e_callTy call_tuple_of dc_tuple (by rfl) D.b_tuple boot_tuple (e_lc (own := [("k", 5)]) rfl sc_law.nd (i_rng1 (by rfl) D.b_range (e_name (pv 2))) (blkOk_by (by kernel_rfl)) (fun _ _ _ _ _ => (g_name (pg_name (i := 5) sc_law.nd rfl (by first | exact Or.inl rfl | exact Or.inr rfl)))) (fun _ _ _ _ _ => ts_nil) (fun _ _ _ _ _ => (e_ix (e_lst (x_cons e_non (x_cons (e_call G__law_take (hr.mono (by decide)) (by rfl) D.g__law_take D.F__law_take.kp D.n__law_take (x_cons (e_name (pv 1)) (x_cons e_int x_nil))) x_nil))) (e_call G__law_take (hr.mono (by decide)) (by rfl) D.g__law_take D.F__law_take.kp D.n__law_take (x_cons (e_name (pv 1)) (x_cons e_int x_nil)))))))))
      (ss_cons (s_unp2 (e_call G_chance (hr.mono (by decide)) (by rfl) D.g_chance D.F_chance.kp D.n_chance (x_cons (e_name (pv 3)) (x_cons (e_name (pv 4)) (x_cons (e_name (pv 12)) x_nil)))) (g_tup (pg_tup (n := 2) rfl (gs_cons (g_name (pg_name (i := 13) sc_law.nd rfl (.inl rfl))) (gs_cons (g_name (pg_name (i := 14) sc_law.nd rfl (.inl rfl))) gs_nil)))))
      (ss_cons (s_unp2 (e_call G_is_sure (hr.mono (by decide)) (by rfl) D.g_is_sure D.F_is_sure.kp D.n_is_sure (x_cons (e_name (pv 3)) (x_cons (e_name (pv 4)) (x_cons (e_name (pv 12)) x_nil)))) (g_tup (pg_tup (n := 2) rfl (gs_cons (g_name (pg_name (i := 15) sc_law.nd rfl (.inl rfl))) (gs_cons (g_name (pg_name (i := 16) sc_law.nd rfl (.inl rfl))) gs_nil)))))
      (ss_cons (s_unp2 (e_call G_counts (hr.mono (by decide)) (by rfl) D.g_counts D.F_counts.kp D.n_counts (x_cons (e_name (pv 3)) (x_cons (e_name (pv 4)) (x_cons (e_name (pv 12)) x_nil)))) (g_tup (pg_tup (n := 2) rfl (gs_cons (g_name (pg_name (i := 17) sc_law.nd rfl (.inl rfl))) (gs_cons (g_name (pg_name (i := 18) sc_law.nd rfl (.inl rfl))) gs_nil)))))
      (ss_cons (s_if (t_w (w_orC (t_cmp (op_neP hr.units) dr_ne (e_name (pv 14)) (e_name (pv 6)) (nomark _)) (w_orC (t_cmp (op_neP hr.units) dr_ne (e_cmp (op_eqP hr.units) dr_eq (e_name (pv 13)) (e_name (pv 14)) (nomark _)) (e_cmp (op_eqP hr.units) dr_eq (e_name (pv 15)) e_str (nomark _)) (nomark _)) (w_orC (t_cmp (op_neP hr.units) dr_ne (e_cmp op_gt dr_b (e_name (pv 17)) e_int (nomark _)) (e_cmp (op_eqP hr.units) dr_eq (e_name (pv 15)) e_str (nomark _)) (nomark _)) (w_or1 (t_cmp (op_neP hr.units) dr_ne (e_cmp op_gt dr_b (e_name (pv 18)) e_int (nomark _)) (e_cmp op_gt dr_b (e_name (pv 13)) e_int (nomark _)) (nomark _))))))) (ss_one (s_ret e_bl)) ss_nil)
      (ss_cons (s_if (t_cmp (op_neP hr.units) dr_ne (e_name (pv 13)) (e_callB call_len_seq dc_len (by rfl) D.b_len PySem.boot_len (e_lc (own := [("k", 5)]) rfl sc_law.nd (i_rng1 (by rfl) D.b_range (e_name (pv 6))) (blkOk_by (by kernel_rfl)) (fun _ _ _ _ _ => (g_name (pg_name (i := 5) sc_law.nd rfl (by first | exact Or.inl rfl | exact Or.inr rfl)))) (fun _ _ _ _ _ => (ts_one (t_cmp op_gt dr_b (e_callB call_len_seq dc_len (by rfl) D.b_len PySem.boot_len (e_lc (own := [("row", 19)]) rfl sc_law.nd (i_seq (e_call G_mending_at (hr.mono (by decide)) (by rfl) D.g_mending_at D.F_mending_at.kp D.n_mending_at (x_cons (e_name (pv 3)) (x_cons (e_name (pv 4)) (x_cons (e_name (pv 5)) x_nil))))) (blkOk_by (by kernel_rfl)) (fun _ _ _ _ _ => (g_name (pg_name (i := 19) sc_law.nd rfl (by first | exact Or.inl rfl | exact Or.inr rfl)))) (fun _ _ _ _ _ => (ts_one (t_cmp (op_eqP hr.units) dr_eq (e_callB call_len_seq dc_len (by rfl) D.b_len PySem.boot_len (e_lc (own := [("j", 20)]) rfl sc_law.nd (i_rng1 (by rfl) D.b_range (e_name (pv 2))) (blkOk_by (by kernel_rfl)) (fun _ _ _ _ _ => (g_name (pg_name (i := 20) sc_law.nd rfl (by first | exact Or.inl rfl | exact Or.inr rfl)))) (fun _ _ _ _ _ => (ts_one (t_w (w_andC (t_cmp op_notN dr_notN (e_ix (e_name (pv 12)) (e_name (pv 20))) e_non (nomark _)) (w_and1 (t_cmp (op_neP hr.units) dr_ne (e_ix (e_name (pv 19)) (e_name (pv 20))) (e_ix (e_name (pv 12)) (e_name (pv 20))) (nomark _))))))) (fun _ _ _ _ _ => (e_name (pv 20))))) e_int (nomark _)))) (fun _ _ _ _ _ => (e_name (pv 19))))) e_int (nomark _)))) (fun _ _ _ _ _ => (e_name (pv 5))))) (nomark _)) (ss_one (s_ret e_bl)) ss_nil)
      (ss_cons (s_set (ps_set (i := 21) sc_law.nd rfl (.inl rfl) (e_repT (e_tup (x_cons e_non x_nil)) (e_name (pv 2)))))
      (ss_cons (s_if (t_w (w_orC (t_cmp (op_neP hr.units) dr_ne (e_call G_chance (hr.mono (by decide)) (by rfl) D.g_chance D.F_chance.kp D.n_chance (x_cons (e_name (pv 3)) (x_cons (e_name (pv 4)) (x_cons (e_name (pv 21)) x_nil)))) (e_tup (x_cons (e_name (pv 6)) (x_cons (e_name (pv 6)) x_nil))) (nomark _)) (w_or1 (t_cmp (op_neP hr.units) dr_ne (e_call G_counts (hr.mono (by decide)) (by rfl) D.g_counts D.F_counts.kp D.n_counts (x_cons (e_name (pv 3)) (x_cons (e_name (pv 4)) (x_cons (e_name (pv 21)) x_nil)))) (e_tup (x_cons (e_callB call_len_seq dc_len (by rfl) D.b_len PySem.boot_len (e_name (pv 7))) (x_cons (e_callB call_len_seq dc_len (by rfl) D.b_len PySem.boot_len (e_name (pv 7))) x_nil))) (nomark _))))) (ss_one (s_ret e_bl)) ss_nil)
      (ss_cons (s_set (ps_set (i := 22) sc_law.nd rfl (.inr rfl) (e_call G__law_take (hr.mono (by decide)) (by rfl) D.g__law_take D.F__law_take.kp D.n__law_take (x_cons (e_name (pv 1)) (x_cons (e_name (pv 2)) x_nil)))))
      (ss_cons (s_unp2 (e_call G_sums (hr.mono (by decide)) (by rfl) D.g_sums D.F_sums.kp D.n_sums (x_cons (e_name (pv 3)) (x_cons (e_name (pv 4)) (x_cons (e_name (pv 22)) x_nil)))) (g_tup (pg_tup (n := 2) rfl (gs_cons (g_name (pg_name (i := 23) sc_law.nd rfl (.inl rfl))) (gs_cons (g_name (pg_name (i := 24) sc_law.nd rfl (.inl rfl))) gs_nil)))))
      (ss_cons (s_setLc (i := 25) (own := [("k", 5)]) rfl sc_law.nd rfl rfl (sw_true rfl rfl rfl (by decide +kernel)) (i_rng1 (by rfl) D.b_range (e_name (pv 6))) (blkOk_by (by kernel_rfl)) (fun _ _ _ _ _ => (g_name (pg_name (i := 5) sc_law.nd rfl (by first | exact Or.inl rfl | exact Or.inr rfl)))) (fun _ _ _ _ _ => ts_nil) (fun _ _ _ _ _ => (e_callB (cr_sum2 rfl) dc_sum (by rfl) D.b_sum boot_sum (e_lc (own := [("row", 19)]) rfl sc_law.nd (i_seq (e_call G_mending_at (hr.mono (by decide)) (by rfl) D.g_mending_at D.F_mending_at.kp D.n_mending_at (x_cons (e_name (pv 3)) (x_cons (e_name (pv 4)) (x_cons (e_name (pv 5)) x_nil))))) (blkOk_by (by kernel_rfl)) (fun _ _ _ _ _ => (g_name (pg_name (i := 19) sc_law.nd rfl (by first | exact Or.inl rfl | exact Or.inr rfl)))) (fun _ _ _ _ _ => ts_nil) (fun _ _ _ _ _ => (e_ix (e_name (pv 19)) (e_name (pv 22))))))))
      (ss_cons (s_if (t_cmp (op_neP hr.units) dr_ne (e_tup (x_cons (e_name (pv 23)) (x_cons (e_name (pv 24)) x_nil))) (e_tup (x_cons (e_callB (cr_minD rfl hr.units) dc_best (by rfl) D.b_min boot_min (e_name (pv 25))) (x_cons (e_callB (cr_maxD rfl hr.units) dc_best (by rfl) D.b_max boot_max (e_name (pv 25))) x_nil))) (nomark _)) (ss_one (s_ret e_bl)) ss_nil)
      (ss_one (s_ret (e_call G__law_part1 (hr.mono (by decide)) (by rfl) D.g__law_part1 D.F__law_part1.kp D.n__law_part1 (x_cons (e_name (pv 1)) (x_cons (e_name (pv 2)) (x_cons (e_name (pv 3)) (x_cons (e_name (pv 4)) (x_cons (e_name (pv 6)) (x_cons (e_name (pv 7)) (x_cons (e_name (pv 12)) (x_cons (e_name (pv 15)) (x_cons (e_name (pv 22)) x_nil))))))))))))))))))))))))))))))))))))) (fun oo ds Kc h => ?_)
  · obtain ⟨ns, rfl, rfl, _⟩ := h
    rfl
  · obtain ⟨ns, rfl, rfl, hl, k⟩ := h
    show aSeq _ _ _ [some (.dat (.list (ns.map PyData.int))), none, none, none, none, none, none, none, none, none, none, none, none, none, none, none, none, none, none, none, none, none, none, none, none, none]
    refine cut (fun ρ => ∃ s : Int, ρ = [some (.dat (.list (ns.map PyData.int))), some (.own none (.lst (tape ns 0 0 s))), none, none, none, none, none, none, none, none, none, none, none, none, none, none, none, none, none, none, none, none, none, none, none, none]) (fun Kn kn => ?_) ?_
    · simp only [aName_eq, nm_dat, nm_own, dd_dat, dd_own, bb_bool, arg_dat, arg_own, arg_ali, das_nil, das_dat, cont_list, cont_tup, cont_own, cont_ali, contS_own, ownL_own, ownO_own, stor_dat, stor_own, iD_int, ii_int, i1_int, sAddU_int, sAddU_tup, truS_none, truS_bool, truS_int, truS_list, truS_tup, truS_ali, srcOf_list, srcOf_tup, srcOf_ali, Ab.got_some, gZ_nil, gC_cons, gT_tup, onlyDat_dat, notAli_dat, notAli_own, getO_some, fin_none, fin_some, finO_own, callA_nil, callA_dat, callA_ali, argS_none, argS_some, rt_ad, nx_ad, isN_none, isN_tup, notN_none, notN_tup, aNx, aRet, aIf, aSet, aAug, aDrop, aNever, aC, aBin, aBinR, aUn, aTst, aChain, aNot, aAnd, aOr, aIfE, aAndV, aOrV, aNotV, aNil, aCons, aTup, aLst, aCall1, aCallD, aIx, aApp, aExt, aSetIx, aTru, sLen, sAny, sAll, sSum, sList, sTuple, fI, fC, fB, aSeqI, aRng1, aFor, aFrz, gN, aUnp, aLc, aYes, aCall, aRep, aRgT, turn, wipeA, br_true, br_false, List.map_nil, List.map_cons, List.nil_append, List.cons_append, List.replicate, List.getElem?_cons_zero, List.getElem?_cons_succ, List.set_cons_zero, List.set_cons_succ, List.length_cons, List.length_nil, enS_list, enS_tup, aNotT, aEnum, aRev, aAugD, sLt_int, sLt_ints, sRepT_tup, aCall2, sIsB_eq, sNotB_eq, aDnew, aSortD, ownD_own, aSda, aTupD, datAt_dat, sAllD, aSortSetI, isN_int, notN_int, sIn_int, sNotIn_int, sEq_int, sNe_int, sEq_bool, sNe_bool, sEq_str]
      refine ⟨ns, rfl, rfl, hl, fun s => ?_⟩
      simp only [aName_eq, nm_dat, nm_own, dd_dat, dd_own, bb_bool, arg_dat, arg_own, arg_ali, das_nil, das_dat, cont_list, cont_tup, cont_own, cont_ali, contS_own, ownL_own, ownO_own, stor_dat, stor_own, iD_int, ii_int, i1_int, sAddU_int, sAddU_tup, truS_none, truS_bool, truS_int, truS_list, truS_tup, truS_ali, srcOf_list, srcOf_tup, srcOf_ali, Ab.got_some, gZ_nil, gC_cons, gT_tup, onlyDat_dat, notAli_dat, notAli_own, getO_some, fin_none, fin_some, finO_own, callA_nil, callA_dat, callA_ali, argS_none, argS_some, rt_ad, nx_ad, isN_none, isN_tup, notN_none, notN_tup, aNx, aRet, aIf, aSet, aAug, aDrop, aNever, aC, aBin, aBinR, aUn, aTst, aChain, aNot, aAnd, aOr, aIfE, aAndV, aOrV, aNotV, aNil, aCons, aTup, aLst, aCall1, aCallD, aIx, aApp, aExt, aSetIx, aTru, sLen, sAny, sAll, sSum, sList, sTuple, fI, fC, fB, aSeqI, aRng1, aFor, aFrz, gN, aUnp, aLc, aYes, aCall, aRep, aRgT, turn, wipeA, br_true, br_false, List.map_nil, List.map_cons, List.nil_append, List.cons_append, List.replicate, List.getElem?_cons_zero, List.getElem?_cons_succ, List.set_cons_zero, List.set_cons_succ, List.length_cons, List.length_nil, enS_list, enS_tup, aNotT, aEnum, aRev, aAugD, sLt_int, sLt_ints, sRepT_tup, aCall2, sIsB_eq, sNotB_eq, aDnew, aSortD, ownD_own, aSda, aTupD, datAt_dat, sAllD, aSortSetI, isN_int, notN_int, sIn_int, sNotIn_int, sEq_int, sNe_int, sEq_bool, sNe_bool, sEq_str]
      exact ⟨trivial, kn _ ⟨s, rfl⟩⟩
    rintro ρ ⟨s, rfl⟩
    refine cut (fun ρ => ∃ (wd : Nat) (t l s : Int), 2 ≤ wd ∧ wd ≤ 3 ∧ OkTape ns t l s ∧ ρ = [some (.dat (.list (ns.map PyData.int))), some (.own none (.lst (tape ns t l s))), some (.dat (.int (wd : Int))), none, none, none, none, none, none, none, none, none, none, none, none, none, none, none, none, none, none, none, none, none, none, none]) (fun Kn kn => ?_) ?_
    · simp only [aName_eq, nm_dat, nm_own, dd_dat, dd_own, bb_bool, arg_dat, arg_own, arg_ali, das_nil, das_dat, cont_list, cont_tup, cont_own, cont_ali, contS_own, ownL_own, ownO_own, stor_dat, stor_own, iD_int, ii_int, i1_int, sAddU_int, sAddU_tup, truS_none, truS_bool, truS_int, truS_list, truS_tup, truS_ali, srcOf_list, srcOf_tup, srcOf_ali, Ab.got_some, gZ_nil, gC_cons, gT_tup, onlyDat_dat, notAli_dat, notAli_own, getO_some, fin_none, fin_some, finO_own, callA_nil, callA_dat, callA_ali, argS_none, argS_some, rt_ad, nx_ad, isN_none, isN_tup, notN_none, notN_tup, aNx, aRet, aIf, aSet, aAug, aDrop, aNever, aC, aBin, aBinR, aUn, aTst, aChain, aNot, aAnd, aOr, aIfE, aAndV, aOrV, aNotV, aNil, aCons, aTup, aLst, aCall1, aCallD, aIx, aApp, aExt, aSetIx, aTru, sLen, sAny, sAll, sSum, sList, sTuple, fI, fC, fB, aSeqI, aRng1, aFor, aFrz, gN, aUnp, aLc, aYes, aCall, aRep, aRgT, turn, wipeA, br_true, br_false, List.map_nil, List.map_cons, List.nil_append, List.cons_append, List.replicate, List.getElem?_cons_zero, List.getElem?_cons_succ, List.set_cons_zero, List.set_cons_succ, List.length_cons, List.length_nil, enS_list, enS_tup, aNotT, aEnum, aRev, aAugD, sLt_int, sLt_ints, sRepT_tup, aCall2, sIsB_eq, sNotB_eq, aDnew, aSortD, ownD_own, aSda, aTupD, datAt_dat, sAllD, aSortSetI, isN_int, notN_int, sIn_int, sNotIn_int, sEq_int, sNe_int, sEq_bool, sNe_bool, sEq_str]
      refine ⟨ns, 0, 0, s, 2, rfl, rfl, ⟨by omega, by omega, by omega⟩, by decide, by decide, fun r t' l' s' r0 r1 hT => ?_⟩
      obtain ⟨wd, hwd⟩ : ∃ wd : Nat, 2 + r = (wd : Int) := ⟨(2 + r).toNat, by omega⟩
      simp only [hwd, aName_eq, nm_dat, nm_own, dd_dat, dd_own, bb_bool, arg_dat, arg_own, arg_ali, das_nil, das_dat, cont_list, cont_tup, cont_own, cont_ali, contS_own, ownL_own, ownO_own, stor_dat, stor_own, iD_int, ii_int, i1_int, sAddU_int, sAddU_tup, truS_none, truS_bool, truS_int, truS_list, truS_tup, truS_ali, srcOf_list, srcOf_tup, srcOf_ali, Ab.got_some, gZ_nil, gC_cons, gT_tup, onlyDat_dat, notAli_dat, notAli_own, getO_some, fin_none, fin_some, finO_own, callA_nil, callA_dat, callA_ali, argS_none, argS_some, rt_ad, nx_ad, isN_none, isN_tup, notN_none, notN_tup, aNx, aRet, aIf, aSet, aAug, aDrop, aNever, aC, aBin, aBinR, aUn, aTst, aChain, aNot, aAnd, aOr, aIfE, aAndV, aOrV, aNotV, aNil, aCons, aTup, aLst, aCall1, aCallD, aIx, aApp, aExt, aSetIx, aTru, sLen, sAny, sAll, sSum, sList, sTuple, fI, fC, fB, aSeqI, aRng1, aFor, aFrz, gN, aUnp, aLc, aYes, aCall, aRep, aRgT, turn, wipeA, br_true, br_false, List.map_nil, List.map_cons, List.nil_append, List.cons_append, List.replicate, List.getElem?_cons_zero, List.getElem?_cons_succ, List.set_cons_zero, List.set_cons_succ, List.length_cons, List.length_nil, enS_list, enS_tup, aNotT, aEnum, aRev, aAugD, sLt_int, sLt_ints, sRepT_tup, aCall2, sIsB_eq, sNotB_eq, aDnew, aSortD, ownD_own, aSda, aTupD, datAt_dat, sAllD, aSortSetI, isN_int, notN_int, sIn_int, sNotIn_int, sEq_int, sNe_int, sEq_bool, sNe_bool, sEq_str]
      exact kn _ ⟨wd, t', l', s', by omega, by omega, hT, rfl⟩
    rintro ρ ⟨wd, t, l, s, w2, w3, hTp, rfl⟩
    refine cut (fun ρ => ∃ (rows : List Row) (t l s : Int), OkRows wd rows ∧ OkTape ns t l s ∧ ρ = [some (.dat (.list (ns.map PyData.int))), some (.own none (.lst (tape ns t l s))), some (.dat (.int (wd : Int))), some (.dat (eR rows)), none, none, none, none, none, none, none, none, none, none, none, none, none, none, none, none, none, none, none, none, none, none]) (fun Kn kn => ?_) ?_
    · simp only [aName_eq, nm_dat, nm_own, dd_dat, dd_own, bb_bool, arg_dat, arg_own, arg_ali, das_nil, das_dat, cont_list, cont_tup, cont_own, cont_ali, contS_own, ownL_own, ownO_own, stor_dat, stor_own, iD_int, ii_int, i1_int, sAddU_int, sAddU_tup, truS_none, truS_bool, truS_int, truS_list, truS_tup, truS_ali, srcOf_list, srcOf_tup, srcOf_ali, Ab.got_some, gZ_nil, gC_cons, gT_tup, onlyDat_dat, notAli_dat, notAli_own, getO_some, fin_none, fin_some, finO_own, callA_nil, callA_dat, callA_ali, argS_none, argS_some, rt_ad, nx_ad, isN_none, isN_tup, notN_none, notN_tup, aNx, aRet, aIf, aSet, aAug, aDrop, aNever, aC, aBin, aBinR, aUn, aTst, aChain, aNot, aAnd, aOr, aIfE, aAndV, aOrV, aNotV, aNil, aCons, aTup, aLst, aCall1, aCallD, aIx, aApp, aExt, aSetIx, aTru, sLen, sAny, sAll, sSum, sList, sTuple, fI, fC, fB, aSeqI, aRng1, aFor, aFrz, gN, aUnp, aLc, aYes, aCall, aRep, aRgT, turn, wipeA, br_true, br_false, List.map_nil, List.map_cons, List.nil_append, List.cons_append, List.replicate, List.getElem?_cons_zero, List.getElem?_cons_succ, List.set_cons_zero, List.set_cons_succ, List.length_cons, List.length_nil, enS_list, enS_tup, aNotT, aEnum, aRev, aAugD, sLt_int, sLt_ints, sRepT_tup, aCall2, sIsB_eq, sNotB_eq, aDnew, aSortD, ownD_own, aSda, aTupD, datAt_dat, sAllD, aSortSetI, isN_int, notN_int, sIn_int, sNotIn_int, sEq_int, sNe_int, sEq_bool, sNe_bool, sEq_str]
      refine ⟨ns, t, l, s, wd, rfl, rfl, hTp, by omega, by omega, fun rows t' l' s' hR hT => ?_⟩
      simp only [aName_eq, nm_dat, nm_own, dd_dat, dd_own, bb_bool, arg_dat, arg_own, arg_ali, das_nil, das_dat, cont_list, cont_tup, cont_own, cont_ali, contS_own, ownL_own, ownO_own, stor_dat, stor_own, iD_int, ii_int, i1_int, sAddU_int, sAddU_tup, truS_none, truS_bool, truS_int, truS_list, truS_tup, truS_ali, srcOf_list, srcOf_tup, srcOf_ali, Ab.got_some, gZ_nil, gC_cons, gT_tup, onlyDat_dat, notAli_dat, notAli_own, getO_some, fin_none, fin_some, finO_own, callA_nil, callA_dat, callA_ali, argS_none, argS_some, rt_ad, nx_ad, isN_none, isN_tup, notN_none, notN_tup, aNx, aRet, aIf, aSet, aAug, aDrop, aNever, aC, aBin, aBinR, aUn, aTst, aChain, aNot, aAnd, aOr, aIfE, aAndV, aOrV, aNotV, aNil, aCons, aTup, aLst, aCall1, aCallD, aIx, aApp, aExt, aSetIx, aTru, sLen, sAny, sAll, sSum, sList, sTuple, fI, fC, fB, aSeqI, aRng1, aFor, aFrz, gN, aUnp, aLc, aYes, aCall, aRep, aRgT, turn, wipeA, br_true, br_false, List.map_nil, List.map_cons, List.nil_append, List.cons_append, List.replicate, List.getElem?_cons_zero, List.getElem?_cons_succ, List.set_cons_zero, List.set_cons_succ, List.length_cons, List.length_nil, enS_list, enS_tup, aNotT, aEnum, aRev, aAugD, sLt_int, sLt_ints, sRepT_tup, aCall2, sIsB_eq, sNotB_eq, aDnew, aSortD, ownD_own, aSda, aTupD, datAt_dat, sAllD, aSortSetI, isN_int, notN_int, sIn_int, sNotIn_int, sEq_int, sNe_int, sEq_bool, sNe_bool, sEq_str]
      exact kn _ ⟨rows, t', l', s', hR, hT, rfl⟩
    rintro ρ ⟨rows, t, l, s, hR, hTp, rfl⟩
    refine cut (fun ρ => ∃ (key : Row) (t l s : Int), key.Pairwise (· < ·) ∧ (∀ x ∈ key, 0 ≤ x ∧ x < (wd : Int)) ∧ OkTape ns t l s ∧ ρ = [some (.dat (.list (ns.map PyData.int))), some (.own none (.lst (tape ns t l s))), some (.dat (.int (wd : Int))), some (.dat (eR rows)), some (.dat (tI key)), none, none, none, none, none, none, none, none, none, none, none, none, none, none, none, none, none, none, none, none, none]) (fun Kn kn => ?_) ?_
    · simp only [aName_eq, nm_dat, nm_own, dd_dat, dd_own, bb_bool, arg_dat, arg_own, arg_ali, das_nil, das_dat, cont_list, cont_tup, cont_own, cont_ali, contS_own, ownL_own, ownO_own, stor_dat, stor_own, iD_int, ii_int, i1_int, sAddU_int, sAddU_tup, truS_none, truS_bool, truS_int, truS_list, truS_tup, truS_ali, srcOf_list, srcOf_tup, srcOf_ali, Ab.got_some, gZ_nil, gC_cons, gT_tup, onlyDat_dat, notAli_dat, notAli_own, getO_some, fin_none, fin_some, finO_own, callA_nil, callA_dat, callA_ali, argS_none, argS_some, rt_ad, nx_ad, isN_none, isN_tup, notN_none, notN_tup, aNx, aRet, aIf, aSet, aAug, aDrop, aNever, aC, aBin, aBinR, aUn, aTst, aChain, aNot, aAnd, aOr, aIfE, aAndV, aOrV, aNotV, aNil, aCons, aTup, aLst, aCall1, aCallD, aIx, aApp, aExt, aSetIx, aTru, sLen, sAny, sAll, sSum, sList, sTuple, fI, fC, fB, aSeqI, aRng1, aFor, aFrz, gN, aUnp, aLc, aYes, aCall, aRep, aRgT, turn, wipeA, br_true, br_false, List.map_nil, List.map_cons, List.nil_append, List.cons_append, List.replicate, List.getElem?_cons_zero, List.getElem?_cons_succ, List.set_cons_zero, List.set_cons_succ, List.length_cons, List.length_nil, enS_list, enS_tup, aNotT, aEnum, aRev, aAugD, sLt_int, sLt_ints, sRepT_tup, aCall2, sIsB_eq, sNotB_eq, aDnew, aSortD, ownD_own, aSda, aTupD, datAt_dat, sAllD, aSortSetI, isN_int, notN_int, sIn_int, sNotIn_int, sEq_int, sNe_int, sEq_bool, sNe_bool, sEq_str]
      refine ⟨by omega, by omega, ?_⟩
      rw [rangeD0]
      refine lc_inv (enc := fun (q : Nat) => PyData.int (q : Int)) (fun pre acc ρ => ∃ (ks : List Nat) (t l s : Int), ks.Sublist pre ∧ acc = ks.map (fun (q : Nat) => PyData.int (q : Int)) ∧ OkTape ns t l s ∧ ρ = [some (.dat (.list (ns.map PyData.int))), some (.own none (.lst (tape ns t l s))), some (.dat (.int (wd : Int))), some (.dat (eR rows)), none, none, none, none, none, none, none, none, none, none, none, none, none, none, none, none, none, none, none, none, none, none])
        ⟨[], t, l, s, .slnil, rfl, hTp, rfl⟩ (small_len (by simp; omega)) (fun pre acc ρ hI => ?_) ?_ ?_
      · obtain ⟨ks, t, l, s, _, _, _, rfl⟩ := hI
        exact ⟨trivial, by simp [Ab.freeOf]⟩
      · rintro pre x post e acc ρ ⟨ks, t, l, s, g1, g2, g3, rfl⟩ Ka Ks ka ks'
        simp only [aName_eq, nm_dat, nm_own, dd_dat, dd_own, bb_bool, arg_dat, arg_own, arg_ali, das_nil, das_dat, cont_list, cont_tup, cont_own, cont_ali, contS_own, ownL_own, ownO_own, stor_dat, stor_own, iD_int, ii_int, i1_int, sAddU_int, sAddU_tup, truS_none, truS_bool, truS_int, truS_list, truS_tup, truS_ali, srcOf_list, srcOf_tup, srcOf_ali, Ab.got_some, gZ_nil, gC_cons, gT_tup, onlyDat_dat, notAli_dat, notAli_own, getO_some, fin_none, fin_some, finO_own, callA_nil, callA_dat, callA_ali, argS_none, argS_some, rt_ad, nx_ad, isN_none, isN_tup, notN_none, notN_tup, aNx, aRet, aIf, aSet, aAug, aDrop, aNever, aC, aBin, aBinR, aUn, aTst, aChain, aNot, aAnd, aOr, aIfE, aAndV, aOrV, aNotV, aNil, aCons, aTup, aLst, aCall1, aCallD, aIx, aApp, aExt, aSetIx, aTru, sLen, sAny, sAll, sSum, sList, sTuple, fI, fC, fB, aSeqI, aRng1, aFor, aFrz, gN, aUnp, aLc, aYes, aCall, aRep, aRgT, turn, wipeA, br_true, br_false, List.map_nil, List.map_cons, List.nil_append, List.cons_append, List.replicate, List.getElem?_cons_zero, List.getElem?_cons_succ, List.set_cons_zero, List.set_cons_succ, List.length_cons, List.length_nil, enS_list, enS_tup, aNotT, aEnum, aRev, aAugD, sLt_int, sLt_ints, sRepT_tup, aCall2, sIsB_eq, sNotB_eq, aDnew, aSortD, ownD_own, aSda, aTupD, datAt_dat, sAllD, aSortSetI, isN_int, notN_int, sIn_int, sNotIn_int, sEq_int, sNe_int, sEq_bool, sNe_bool, sEq_str]
        refine ⟨ns, t, l, s, 2, rfl, rfl, g3, by decide, by decide, fun r t' l' s' r0 r1 hT' => ?_⟩
        simp only [aName_eq, nm_dat, nm_own, dd_dat, dd_own, bb_bool, arg_dat, arg_own, arg_ali, das_nil, das_dat, cont_list, cont_tup, cont_own, cont_ali, contS_own, ownL_own, ownO_own, stor_dat, stor_own, iD_int, ii_int, i1_int, sAddU_int, sAddU_tup, truS_none, truS_bool, truS_int, truS_list, truS_tup, truS_ali, srcOf_list, srcOf_tup, srcOf_ali, Ab.got_some, gZ_nil, gC_cons, gT_tup, onlyDat_dat, notAli_dat, notAli_own, getO_some, fin_none, fin_some, finO_own, callA_nil, callA_dat, callA_ali, argS_none, argS_some, rt_ad, nx_ad, isN_none, isN_tup, notN_none, notN_tup, aNx, aRet, aIf, aSet, aAug, aDrop, aNever, aC, aBin, aBinR, aUn, aTst, aChain, aNot, aAnd, aOr, aIfE, aAndV, aOrV, aNotV, aNil, aCons, aTup, aLst, aCall1, aCallD, aIx, aApp, aExt, aSetIx, aTru, sLen, sAny, sAll, sSum, sList, sTuple, fI, fC, fB, aSeqI, aRng1, aFor, aFrz, gN, aUnp, aLc, aYes, aCall, aRep, aRgT, turn, wipeA, br_true, br_false, List.map_nil, List.map_cons, List.nil_append, List.cons_append, List.replicate, List.getElem?_cons_zero, List.getElem?_cons_succ, List.set_cons_zero, List.set_cons_succ, List.length_cons, List.length_nil, enS_list, enS_tup, aNotT, aEnum, aRev, aAugD, sLt_int, sLt_ints, sRepT_tup, aCall2, sIsB_eq, sNotB_eq, aDnew, aSortD, ownD_own, aSda, aTupD, datAt_dat, sAllD, aSortSetI, isN_int, notN_int, sIn_int, sNotIn_int, sEq_int, sNe_int, sEq_bool, sNe_bool, sEq_str]
        refine ⟨fun _ => ka _ _ ⟨ks ++ [x], t', l', s', g1.append (List.Sublist.refl _), ?_, hT', rfl⟩, fun _ => ks' _ ⟨ks, t', l', s', g1.trans (List.sublist_append_left _ _), g2, hT', rfl⟩⟩
        rw [List.map_append, ← g2]
        rfl
      · rintro acc ρ ⟨ks, t, l, s, g1, rfl, g3, rfl⟩
        have em : (ks.map fun (q : Nat) => PyData.int (q : Int)) = (ks.map fun (q : Nat) => (q : Int)).map PyData.int := by rw [List.map_map]; rfl
        rw [em]
        simp only [aName_eq, nm_dat, nm_own, dd_dat, dd_own, bb_bool, arg_dat, arg_own, arg_ali, das_nil, das_dat, cont_list, cont_tup, cont_own, cont_ali, contS_own, ownL_own, ownO_own, stor_dat, stor_own, iD_int, ii_int, i1_int, sAddU_int, sAddU_tup, truS_none, truS_bool, truS_int, truS_list, truS_tup, truS_ali, srcOf_list, srcOf_tup, srcOf_ali, Ab.got_some, gZ_nil, gC_cons, gT_tup, onlyDat_dat, notAli_dat, notAli_own, getO_some, fin_none, fin_some, finO_own, callA_nil, callA_dat, callA_ali, argS_none, argS_some, rt_ad, nx_ad, isN_none, isN_tup, notN_none, notN_tup, aNx, aRet, aIf, aSet, aAug, aDrop, aNever, aC, aBin, aBinR, aUn, aTst, aChain, aNot, aAnd, aOr, aIfE, aAndV, aOrV, aNotV, aNil, aCons, aTup, aLst, aCall1, aCallD, aIx, aApp, aExt, aSetIx, aTru, sLen, sAny, sAll, sSum, sList, sTuple, fI, fC, fB, aSeqI, aRng1, aFor, aFrz, gN, aUnp, aLc, aYes, aCall, aRep, aRgT, turn, wipeA, br_true, br_false, List.map_nil, List.map_cons, List.nil_append, List.cons_append, List.replicate, List.getElem?_cons_zero, List.getElem?_cons_succ, List.set_cons_zero, List.set_cons_succ, List.length_cons, List.length_nil, enS_list, enS_tup, aNotT, aEnum, aRev, aAugD, sLt_int, sLt_ints, sRepT_tup, aCall2, sIsB_eq, sNotB_eq, aDnew, aSortD, ownD_own, aSda, aTupD, datAt_dat, sAllD, aSortSetI, isN_int, notN_int, sIn_int, sNotIn_int, sEq_int, sNe_int, sEq_bool, sNe_bool, sEq_str]
        exact kn _ ⟨ks.map fun (q : Nat) => (q : Int), t, l, s, List.pairwise_map.mpr ((List.pairwise_lt_range.sublist g1).imp fun h => by omega), fun x hx => by
          obtain ⟨q, hq, rfl⟩ := List.mem_map.mp hx
          have := List.mem_range.mp (g1.subset hq)
          omega, g3, rfl⟩
    rintro ρ ⟨key, t, l, s, kasc, krng, hTp, rfl⟩
    have hT : OkTab wd rows key := hR.tab w3 kasc krng
    have hgl := groups_len hT
    have hgk : ∀ g ∈ groupsF rows key, OkG wd rows g := groups_ok hT
    have hne : ∀ g ∈ groupsF rows key, g ≠ [] := fun g hg => (hgk g hg).ne
    have hfew : countF rows key ≤ 256 := count_few (by have := hR.few; omega)
    have hone := count_one hT
    have hrl := hR.few
    refine cut1 [some (.dat (.list (ns.map PyData.int))), some (.own none (.lst (tape ns t l s))), some (.dat (.int (wd : Int))), some (.dat (eR rows)), some (.dat (tI key)), none, some (.dat (.int (countF rows key))), none, none, none, none, none, none, none, none, none, none, none, none, none, none, none, none, none, none, none] (fun Kn kn => ?_) ?_
    · simp only [aName_eq, nm_dat, nm_own, dd_dat, dd_own, bb_bool, arg_dat, arg_own, arg_ali, das_nil, das_dat, cont_list, cont_tup, cont_own, cont_ali, contS_own, ownL_own, ownO_own, stor_dat, stor_own, iD_int, ii_int, i1_int, sAddU_int, sAddU_tup, truS_none, truS_bool, truS_int, truS_list, truS_tup, truS_ali, srcOf_list, srcOf_tup, srcOf_ali, Ab.got_some, gZ_nil, gC_cons, gT_tup, onlyDat_dat, notAli_dat, notAli_own, getO_some, fin_none, fin_some, finO_own, callA_nil, callA_dat, callA_ali, argS_none, argS_some, rt_ad, nx_ad, isN_none, isN_tup, notN_none, notN_tup, aNx, aRet, aIf, aSet, aAug, aDrop, aNever, aC, aBin, aBinR, aUn, aTst, aChain, aNot, aAnd, aOr, aIfE, aAndV, aOrV, aNotV, aNil, aCons, aTup, aLst, aCall1, aCallD, aIx, aApp, aExt, aSetIx, aTru, sLen, sAny, sAll, sSum, sList, sTuple, fI, fC, fB, aSeqI, aRng1, aFor, aFrz, gN, aUnp, aLc, aYes, aCall, aRep, aRgT, turn, wipeA, br_true, br_false, List.map_nil, List.map_cons, List.nil_append, List.cons_append, List.replicate, List.getElem?_cons_zero, List.getElem?_cons_succ, List.set_cons_zero, List.set_cons_succ, List.length_cons, List.length_nil, enS_list, enS_tup, aNotT, aEnum, aRev, aAugD, sLt_int, sLt_ints, sRepT_tup, aCall2, sIsB_eq, sNotB_eq, aDnew, aSortD, ownD_own, aSda, aTupD, datAt_dat, sAllD, aSortSetI, isN_int, notN_int, sIn_int, sNotIn_int, sEq_int, sNe_int, sEq_bool, sNe_bool, sEq_str]
      refine ⟨wd, rows, key, rfl, rfl, hT, ?_⟩
      simp only [aName_eq, nm_dat, nm_own, dd_dat, dd_own, bb_bool, arg_dat, arg_own, arg_ali, das_nil, das_dat, cont_list, cont_tup, cont_own, cont_ali, contS_own, ownL_own, ownO_own, stor_dat, stor_own, iD_int, ii_int, i1_int, sAddU_int, sAddU_tup, truS_none, truS_bool, truS_int, truS_list, truS_tup, truS_ali, srcOf_list, srcOf_tup, srcOf_ali, Ab.got_some, gZ_nil, gC_cons, gT_tup, onlyDat_dat, notAli_dat, notAli_own, getO_some, fin_none, fin_some, finO_own, callA_nil, callA_dat, callA_ali, argS_none, argS_some, rt_ad, nx_ad, isN_none, isN_tup, notN_none, notN_tup, aNx, aRet, aIf, aSet, aAug, aDrop, aNever, aC, aBin, aBinR, aUn, aTst, aChain, aNot, aAnd, aOr, aIfE, aAndV, aOrV, aNotV, aNil, aCons, aTup, aLst, aCall1, aCallD, aIx, aApp, aExt, aSetIx, aTru, sLen, sAny, sAll, sSum, sList, sTuple, fI, fC, fB, aSeqI, aRng1, aFor, aFrz, gN, aUnp, aLc, aYes, aCall, aRep, aRgT, turn, wipeA, br_true, br_false, List.map_nil, List.map_cons, List.nil_append, List.cons_append, List.replicate, List.getElem?_cons_zero, List.getElem?_cons_succ, List.set_cons_zero, List.set_cons_succ, List.length_cons, List.length_nil, enS_list, enS_tup, aNotT, aEnum, aRev, aAugD, sLt_int, sLt_ints, sRepT_tup, aCall2, sIsB_eq, sNotB_eq, aDnew, aSortD, ownD_own, aSda, aTupD, datAt_dat, sAllD, aSortSetI, isN_int, notN_int, sIn_int, sNotIn_int, sEq_int, sNe_int, sEq_bool, sNe_bool, sEq_str]
      exact ⟨trivial, kn⟩
    refine cut1 [some (.dat (.list (ns.map PyData.int))), some (.own none (.lst (tape ns t l s))), some (.dat (.int (wd : Int))), some (.dat (eR rows)), some (.dat (tI key)), none, some (.dat (.int (countF rows key))), some (.dat (.tuple ((groupsF rows key).map eR))), none, none, none, none, none, none, none, none, none, none, none, none, none, none, none, none, none, none] (fun Kn kn => ?_) ?_
    · simp only [aName_eq, nm_dat, nm_own, dd_dat, dd_own, bb_bool, arg_dat, arg_own, arg_ali, das_nil, das_dat, cont_list, cont_tup, cont_own, cont_ali, contS_own, ownL_own, ownO_own, stor_dat, stor_own, iD_int, ii_int, i1_int, sAddU_int, sAddU_tup, truS_none, truS_bool, truS_int, truS_list, truS_tup, truS_ali, srcOf_list, srcOf_tup, srcOf_ali, Ab.got_some, gZ_nil, gC_cons, gT_tup, onlyDat_dat, notAli_dat, notAli_own, getO_some, fin_none, fin_some, finO_own, callA_nil, callA_dat, callA_ali, argS_none, argS_some, rt_ad, nx_ad, isN_none, isN_tup, notN_none, notN_tup, aNx, aRet, aIf, aSet, aAug, aDrop, aNever, aC, aBin, aBinR, aUn, aTst, aChain, aNot, aAnd, aOr, aIfE, aAndV, aOrV, aNotV, aNil, aCons, aTup, aLst, aCall1, aCallD, aIx, aApp, aExt, aSetIx, aTru, sLen, sAny, sAll, sSum, sList, sTuple, fI, fC, fB, aSeqI, aRng1, aFor, aFrz, gN, aUnp, aLc, aYes, aCall, aRep, aRgT, turn, wipeA, br_true, br_false, List.map_nil, List.map_cons, List.nil_append, List.cons_append, List.replicate, List.getElem?_cons_zero, List.getElem?_cons_succ, List.set_cons_zero, List.set_cons_succ, List.length_cons, List.length_nil, enS_list, enS_tup, aNotT, aEnum, aRev, aAugD, sLt_int, sLt_ints, sRepT_tup, aCall2, sIsB_eq, sNotB_eq, aDnew, aSortD, ownD_own, aSda, aTupD, datAt_dat, sAllD, aSortSetI, isN_int, notN_int, sIn_int, sNotIn_int, sEq_int, sNe_int, sEq_bool, sNe_bool, sEq_str]
      refine ⟨wd, rows, key, rfl, rfl, hT, ?_⟩
      simp only [aName_eq, nm_dat, nm_own, dd_dat, dd_own, bb_bool, arg_dat, arg_own, arg_ali, das_nil, das_dat, cont_list, cont_tup, cont_own, cont_ali, contS_own, ownL_own, ownO_own, stor_dat, stor_own, iD_int, ii_int, i1_int, sAddU_int, sAddU_tup, truS_none, truS_bool, truS_int, truS_list, truS_tup, truS_ali, srcOf_list, srcOf_tup, srcOf_ali, Ab.got_some, gZ_nil, gC_cons, gT_tup, onlyDat_dat, notAli_dat, notAli_own, getO_some, fin_none, fin_some, finO_own, callA_nil, callA_dat, callA_ali, argS_none, argS_some, rt_ad, nx_ad, isN_none, isN_tup, notN_none, notN_tup, aNx, aRet, aIf, aSet, aAug, aDrop, aNever, aC, aBin, aBinR, aUn, aTst, aChain, aNot, aAnd, aOr, aIfE, aAndV, aOrV, aNotV, aNil, aCons, aTup, aLst, aCall1, aCallD, aIx, aApp, aExt, aSetIx, aTru, sLen, sAny, sAll, sSum, sList, sTuple, fI, fC, fB, aSeqI, aRng1, aFor, aFrz, gN, aUnp, aLc, aYes, aCall, aRep, aRgT, turn, wipeA, br_true, br_false, List.map_nil, List.map_cons, List.nil_append, List.cons_append, List.replicate, List.getElem?_cons_zero, List.getElem?_cons_succ, List.set_cons_zero, List.set_cons_succ, List.length_cons, List.length_nil, enS_list, enS_tup, aNotT, aEnum, aRev, aAugD, sLt_int, sLt_ints, sRepT_tup, aCall2, sIsB_eq, sNotB_eq, aDnew, aSortD, ownD_own, aSda, aTupD, datAt_dat, sAllD, aSortSetI, isN_int, notN_int, sIn_int, sNotIn_int, sEq_int, sNe_int, sEq_bool, sNe_bool, sEq_str]
      exact ⟨trivial, kn⟩
    refine cut1 [some (.dat (.list (ns.map PyData.int))), some (.own none (.lst (tape ns t l s))), some (.dat (.int (wd : Int))), some (.dat (eR rows)), some (.dat (tI key)), none, some (.dat (.int (countF rows key))), some (.dat (.tuple ((groupsF rows key).map eR))), some (.dat (.int 1)), none, none, none, none, none, none, none, none, none, none, none, none, none, none, none, none, none] (fun Kn kn => ?_) ?_
    · simp only [aName_eq, nm_dat, nm_own, dd_dat, dd_own, bb_bool, arg_dat, arg_own, arg_ali, das_nil, das_dat, cont_list, cont_tup, cont_own, cont_ali, contS_own, ownL_own, ownO_own, stor_dat, stor_own, iD_int, ii_int, i1_int, sAddU_int, sAddU_tup, truS_none, truS_bool, truS_int, truS_list, truS_tup, truS_ali, srcOf_list, srcOf_tup, srcOf_ali, Ab.got_some, gZ_nil, gC_cons, gT_tup, onlyDat_dat, notAli_dat, notAli_own, getO_some, fin_none, fin_some, finO_own, callA_nil, callA_dat, callA_ali, argS_none, argS_some, rt_ad, nx_ad, isN_none, isN_tup, notN_none, notN_tup, aNx, aRet, aIf, aSet, aAug, aDrop, aNever, aC, aBin, aBinR, aUn, aTst, aChain, aNot, aAnd, aOr, aIfE, aAndV, aOrV, aNotV, aNil, aCons, aTup, aLst, aCall1, aCallD, aIx, aApp, aExt, aSetIx, aTru, sLen, sAny, sAll, sSum, sList, sTuple, fI, fC, fB, aSeqI, aRng1, aFor, aFrz, gN, aUnp, aLc, aYes, aCall, aRep, aRgT, turn, wipeA, br_true, br_false, List.map_nil, List.map_cons, List.nil_append, List.cons_append, List.replicate, List.getElem?_cons_zero, List.getElem?_cons_succ, List.set_cons_zero, List.set_cons_succ, List.length_cons, List.length_nil, enS_list, enS_tup, aNotT, aEnum, aRev, aAugD, sLt_int, sLt_ints, sRepT_tup, aCall2, sIsB_eq, sNotB_eq, aDnew, aSortD, ownD_own, aSda, aTupD, datAt_dat, sAllD, aSortSetI, isN_int, notN_int, sIn_int, sNotIn_int, sEq_int, sNe_int, sEq_bool, sNe_bool, sEq_str]
      exact kn
    refine cut (fun ρ => ∃ x8 : Option AV, NoOwn x8 ∧ ρ = [some (.dat (.list (ns.map PyData.int))), some (.own none (.lst (tape ns t l s))), some (.dat (.int (wd : Int))), some (.dat (eR rows)), some (.dat (tI key)), none, some (.dat (.int (countF rows key))), some (.dat (.tuple ((groupsF rows key).map eR))), some (.dat (.int (countF rows key))), x8, none, none, none, none, none, none, none, none, none, none, none, none, none, none, none, none]) (fun Kn kn => ?_) ?_
    · simp only [aName_eq, nm_dat, nm_own, dd_dat, dd_own, bb_bool, arg_dat, arg_own, arg_ali, das_nil, das_dat, cont_list, cont_tup, cont_own, cont_ali, contS_own, ownL_own, ownO_own, stor_dat, stor_own, iD_int, ii_int, i1_int, sAddU_int, sAddU_tup, truS_none, truS_bool, truS_int, truS_list, truS_tup, truS_ali, srcOf_list, srcOf_tup, srcOf_ali, Ab.got_some, gZ_nil, gC_cons, gT_tup, onlyDat_dat, notAli_dat, notAli_own, getO_some, fin_none, fin_some, finO_own, callA_nil, callA_dat, callA_ali, argS_none, argS_some, rt_ad, nx_ad, isN_none, isN_tup, notN_none, notN_tup, aNx, aRet, aIf, aSet, aAug, aDrop, aNever, aC, aBin, aBinR, aUn, aTst, aChain, aNot, aAnd, aOr, aIfE, aAndV, aOrV, aNotV, aNil, aCons, aTup, aLst, aCall1, aCallD, aIx, aApp, aExt, aSetIx, aTru, sLen, sAny, sAll, sSum, sList, sTuple, fI, fC, fB, aSeqI, aRng1, aFor, aFrz, gN, aUnp, aLc, aYes, aCall, aRep, aRgT, turn, wipeA, br_true, br_false, List.map_nil, List.map_cons, List.nil_append, List.cons_append, List.replicate, List.getElem?_cons_zero, List.getElem?_cons_succ, List.set_cons_zero, List.set_cons_succ, List.length_cons, List.length_nil, enS_list, enS_tup, aNotT, aEnum, aRev, aAugD, sLt_int, sLt_ints, sRepT_tup, aCall2, sIsB_eq, sNotB_eq, aDnew, aSortD, ownD_own, aSda, aTupD, datAt_dat, sAllD, aSortSetI, isN_int, notN_int, sIn_int, sNotIn_int, sEq_int, sNe_int, sEq_bool, sNe_bool, sEq_str]
      refine ⟨trivial, fun _ => trivial, ?_⟩
      refine for_inv (enc := eR) (fun pre ρ => ∃ x8 : Option AV, NoOwn x8 ∧ ρ = [some (.dat (.list (ns.map PyData.int))), some (.own none (.lst (tape ns t l s))), some (.dat (.int (wd : Int))), some (.dat (eR rows)), some (.dat (tI key)), none, some (.dat (.int (countF rows key))), some (.dat (.tuple ((groupsF rows key).map eR))), some (.dat (.int (prodL pre))), x8, none, none, none, none, none, none, none, none, none, none, none, none, none, none, none, none]) ⟨none, trivial, rfl⟩ ?_ ?_
      · rintro pre g post e ρ ⟨x8, n8, rfl⟩ Kn2 kn2
        have hg := (hgk g (by rw [e]; simp)).few
        simp only [eR, List.length_map, aName_eq, nm_dat, nm_own, dd_dat, dd_own, bb_bool, arg_dat, arg_own, arg_ali, das_nil, das_dat, cont_list, cont_tup, cont_own, cont_ali, contS_own, ownL_own, ownO_own, stor_dat, stor_own, iD_int, ii_int, i1_int, sAddU_int, sAddU_tup, truS_none, truS_bool, truS_int, truS_list, truS_tup, truS_ali, srcOf_list, srcOf_tup, srcOf_ali, Ab.got_some, gZ_nil, gC_cons, gT_tup, onlyDat_dat, notAli_dat, notAli_own, getO_some, fin_none, fin_some, finO_own, callA_nil, callA_dat, callA_ali, argS_none, argS_some, rt_ad, nx_ad, isN_none, isN_tup, notN_none, notN_tup, aNx, aRet, aIf, aSet, aAug, aDrop, aNever, aC, aBin, aBinR, aUn, aTst, aChain, aNot, aAnd, aOr, aIfE, aAndV, aOrV, aNotV, aNil, aCons, aTup, aLst, aCall1, aCallD, aIx, aApp, aExt, aSetIx, aTru, sLen, sAny, sAll, sSum, sList, sTuple, fI, fC, fB, aSeqI, aRng1, aFor, aFrz, gN, aUnp, aLc, aYes, aCall, aRep, aRgT, turn, wipeA, br_true, br_false, List.map_nil, List.map_cons, List.nil_append, List.cons_append, List.replicate, List.getElem?_cons_zero, List.getElem?_cons_succ, List.set_cons_zero, List.set_cons_succ, List.length_cons, List.length_nil, enS_list, enS_tup, aNotT, aEnum, aRev, aAugD, sLt_int, sLt_ints, sRepT_tup, aCall2, sIsB_eq, sNotB_eq, aDnew, aSortD, ownD_own, aSda, aTupD, datAt_dat, sAllD, aSortSetI, isN_int, notN_int, sIn_int, sNotIn_int, sEq_int, sNe_int, sEq_bool, sNe_bool, sEq_str, aSeq]
        refine ⟨.inr ⟨by omega, by omega⟩, kn2 _ ⟨some (.dat (eR g)), trivial, ?_⟩⟩
        unfold prodL
        rw [List.foldl_append]
        rfl
      · rintro ρ ⟨x8, n8, rfl⟩
        exact kn _ ⟨x8, n8, rfl⟩
    rintro ρ ⟨x8, n8, rfl⟩
    refine cut1 [some (.dat (.list (ns.map PyData.int))), some (.own none (.lst (tape ns t l s))), some (.dat (.int (wd : Int))), some (.dat (eR rows)), some (.dat (tI key)), none, some (.dat (.int (countF rows key))), some (.dat (.tuple ((groupsF rows key).map eR))), some (.dat (.int (countF rows key))), x8, none, none, none, none, none, none, none, none, none, none, none, none, none, none, none, none] (fun Kn kn => ?_) ?_
    · simp only [decide_true, Bool.not_true, aName_eq, nm_dat, nm_own, dd_dat, dd_own, bb_bool, arg_dat, arg_own, arg_ali, das_nil, das_dat, cont_list, cont_tup, cont_own, cont_ali, contS_own, ownL_own, ownO_own, stor_dat, stor_own, iD_int, ii_int, i1_int, sAddU_int, sAddU_tup, truS_none, truS_bool, truS_int, truS_list, truS_tup, truS_ali, srcOf_list, srcOf_tup, srcOf_ali, Ab.got_some, gZ_nil, gC_cons, gT_tup, onlyDat_dat, notAli_dat, notAli_own, getO_some, fin_none, fin_some, finO_own, callA_nil, callA_dat, callA_ali, argS_none, argS_some, rt_ad, nx_ad, isN_none, isN_tup, notN_none, notN_tup, aNx, aRet, aIf, aSet, aAug, aDrop, aNever, aC, aBin, aBinR, aUn, aTst, aChain, aNot, aAnd, aOr, aIfE, aAndV, aOrV, aNotV, aNil, aCons, aTup, aLst, aCall1, aCallD, aIx, aApp, aExt, aSetIx, aTru, sLen, sAny, sAll, sSum, sList, sTuple, fI, fC, fB, aSeqI, aRng1, aFor, aFrz, gN, aUnp, aLc, aYes, aCall, aRep, aRgT, turn, wipeA, br_true, br_false, List.map_nil, List.map_cons, List.nil_append, List.cons_append, List.replicate, List.getElem?_cons_zero, List.getElem?_cons_succ, List.set_cons_zero, List.set_cons_succ, List.length_cons, List.length_nil, enS_list, enS_tup, aNotT, aEnum, aRev, aAugD, sLt_int, sLt_ints, sRepT_tup, aCall2, sIsB_eq, sNotB_eq, aDnew, aSortD, ownD_own, aSda, aTupD, datAt_dat, sAllD, aSortSetI, isN_int, notN_int, sIn_int, sNotIn_int, sEq_int, sNe_int, sEq_bool, sNe_bool, sEq_str]
      refine lc_map (enc := eR) (fun g => .int (g.length : Int)) trivial ⟨n8, by simp, trivial⟩ (small_len (by omega)) (fun g hg Ka Ks ka => ?_) ?_
      · simp only [eR, List.length_map, aName_eq, nm_dat, nm_own, dd_dat, dd_own, bb_bool, arg_dat, arg_own, arg_ali, das_nil, das_dat, cont_list, cont_tup, cont_own, cont_ali, contS_own, ownL_own, ownO_own, stor_dat, stor_own, iD_int, ii_int, i1_int, sAddU_int, sAddU_tup, truS_none, truS_bool, truS_int, truS_list, truS_tup, truS_ali, srcOf_list, srcOf_tup, srcOf_ali, Ab.got_some, gZ_nil, gC_cons, gT_tup, onlyDat_dat, notAli_dat, notAli_own, getO_some, fin_none, fin_some, finO_own, callA_nil, callA_dat, callA_ali, argS_none, argS_some, rt_ad, nx_ad, isN_none, isN_tup, notN_none, notN_tup, aNx, aRet, aIf, aSet, aAug, aDrop, aNever, aC, aBin, aBinR, aUn, aTst, aChain, aNot, aAnd, aOr, aIfE, aAndV, aOrV, aNotV, aNil, aCons, aTup, aLst, aCall1, aCallD, aIx, aApp, aExt, aSetIx, aTru, sLen, sAny, sAll, sSum, sList, sTuple, fI, fC, fB, aSeqI, aRng1, aFor, aFrz, gN, aUnp, aLc, aYes, aCall, aRep, aRgT, turn, wipeA, br_true, br_false, List.map_nil, List.map_cons, List.nil_append, List.cons_append, List.replicate, List.getElem?_cons_zero, List.getElem?_cons_succ, List.set_cons_zero, List.set_cons_succ, List.length_cons, List.length_nil, enS_list, enS_tup, aNotT, aEnum, aRev, aAugD, sLt_int, sLt_ints, sRepT_tup, aCall2, sIsB_eq, sNotB_eq, aDnew, aSortD, ownD_own, aSda, aTupD, datAt_dat, sAllD, aSortSetI, isN_int, notN_int, sIn_int, sNotIn_int, sEq_int, sNe_int, sEq_bool, sNe_bool, sEq_str]
        exact ka
      · have e1 : ((groupsF rows key).map fun g => PyData.int (g.length : Int)) = ((groupsF rows key).map fun g => (g.length : Int)).map PyData.int := by rw [List.map_map]; rfl
        have e2 : ((groupsF rows key).map fun g => (g.length : Int)).sum = (rows.length : Int) := by
          have := sum_cast ((groupsF rows key).map List.length)
          rw [List.map_map, sum_groups] at this
          exact this
        simp only [e1, intsD_ints, e2, List.length_map, decide_true, Bool.not_true, aName_eq, nm_dat, nm_own, dd_dat, dd_own, bb_bool, arg_dat, arg_own, arg_ali, das_nil, das_dat, cont_list, cont_tup, cont_own, cont_ali, contS_own, ownL_own, ownO_own, stor_dat, stor_own, iD_int, ii_int, i1_int, sAddU_int, sAddU_tup, truS_none, truS_bool, truS_int, truS_list, truS_tup, truS_ali, srcOf_list, srcOf_tup, srcOf_ali, Ab.got_some, gZ_nil, gC_cons, gT_tup, onlyDat_dat, notAli_dat, notAli_own, getO_some, fin_none, fin_some, finO_own, callA_nil, callA_dat, callA_ali, argS_none, argS_some, rt_ad, nx_ad, isN_none, isN_tup, notN_none, notN_tup, aNx, aRet, aIf, aSet, aAug, aDrop, aNever, aC, aBin, aBinR, aUn, aTst, aChain, aNot, aAnd, aOr, aIfE, aAndV, aOrV, aNotV, aNil, aCons, aTup, aLst, aCall1, aCallD, aIx, aApp, aExt, aSetIx, aTru, sLen, sAny, sAll, sSum, sList, sTuple, fI, fC, fB, aSeqI, aRng1, aFor, aFrz, gN, aUnp, aLc, aYes, aCall, aRep, aRgT, turn, wipeA, br_true, br_false, List.map_nil, List.map_cons, List.nil_append, List.cons_append, List.replicate, List.getElem?_cons_zero, List.getElem?_cons_succ, List.set_cons_zero, List.set_cons_succ, List.length_cons, List.length_nil, enS_list, enS_tup, aNotT, aEnum, aRev, aAugD, sLt_int, sLt_ints, sRepT_tup, aCall2, sIsB_eq, sNotB_eq, aDnew, aSortD, ownD_own, aSda, aTupD, datAt_dat, sAllD, aSortSetI, isN_int, notN_int, sIn_int, sNotIn_int, sEq_int, sNe_int, sEq_bool, sNe_bool, sEq_str]
        exact kn
    refine cut (fun ρ => ∃ (z t l s : Int), 0 ≤ z ∧ z < countF rows key ∧ OkTape ns t l s ∧ ρ = [some (.dat (.list (ns.map PyData.int))), some (.own none (.lst (tape ns t l s))), some (.dat (.int (wd : Int))), some (.dat (eR rows)), some (.dat (tI key)), none, some (.dat (.int (countF rows key))), some (.dat (.tuple ((groupsF rows key).map eR))), some (.dat (.int (countF rows key))), x8, some (.own none (.lst [.int 0, .int (countF rows key - 1), .int z])), none, none, none, none, none, none, none, none, none, none, none, none, none, none, none]) (fun Kn kn => ?_) ?_
    · simp only [aName_eq, nm_dat, nm_own, dd_dat, dd_own, bb_bool, arg_dat, arg_own, arg_ali, das_nil, das_dat, cont_list, cont_tup, cont_own, cont_ali, contS_own, ownL_own, ownO_own, stor_dat, stor_own, iD_int, ii_int, i1_int, sAddU_int, sAddU_tup, truS_none, truS_bool, truS_int, truS_list, truS_tup, truS_ali, srcOf_list, srcOf_tup, srcOf_ali, Ab.got_some, gZ_nil, gC_cons, gT_tup, onlyDat_dat, notAli_dat, notAli_own, getO_some, fin_none, fin_some, finO_own, callA_nil, callA_dat, callA_ali, argS_none, argS_some, rt_ad, nx_ad, isN_none, isN_tup, notN_none, notN_tup, aNx, aRet, aIf, aSet, aAug, aDrop, aNever, aC, aBin, aBinR, aUn, aTst, aChain, aNot, aAnd, aOr, aIfE, aAndV, aOrV, aNotV, aNil, aCons, aTup, aLst, aCall1, aCallD, aIx, aApp, aExt, aSetIx, aTru, sLen, sAny, sAll, sSum, sList, sTuple, fI, fC, fB, aSeqI, aRng1, aFor, aFrz, gN, aUnp, aLc, aYes, aCall, aRep, aRgT, turn, wipeA, br_true, br_false, List.map_nil, List.map_cons, List.nil_append, List.cons_append, List.replicate, List.getElem?_cons_zero, List.getElem?_cons_succ, List.set_cons_zero, List.set_cons_succ, List.length_cons, List.length_nil, enS_list, enS_tup, aNotT, aEnum, aRev, aAugD, sLt_int, sLt_ints, sRepT_tup, aCall2, sIsB_eq, sNotB_eq, aDnew, aSortD, ownD_own, aSda, aTupD, datAt_dat, sAllD, aSortSetI, isN_int, notN_int, sIn_int, sNotIn_int, sEq_int, sNe_int, sEq_bool, sNe_bool, sEq_str]
      refine ⟨ns, t, l, s, countF rows key, rfl, rfl, hTp, by omega, by omega, fun r t' l' s' r0 r1 hT' => ?_⟩
      simp only [aName_eq, nm_dat, nm_own, dd_dat, dd_own, bb_bool, arg_dat, arg_own, arg_ali, das_nil, das_dat, cont_list, cont_tup, cont_own, cont_ali, contS_own, ownL_own, ownO_own, stor_dat, stor_own, iD_int, ii_int, i1_int, sAddU_int, sAddU_tup, truS_none, truS_bool, truS_int, truS_list, truS_tup, truS_ali, srcOf_list, srcOf_tup, srcOf_ali, Ab.got_some, gZ_nil, gC_cons, gT_tup, onlyDat_dat, notAli_dat, notAli_own, getO_some, fin_none, fin_some, finO_own, callA_nil, callA_dat, callA_ali, argS_none, argS_some, rt_ad, nx_ad, isN_none, isN_tup, notN_none, notN_tup, aNx, aRet, aIf, aSet, aAug, aDrop, aNever, aC, aBin, aBinR, aUn, aTst, aChain, aNot, aAnd, aOr, aIfE, aAndV, aOrV, aNotV, aNil, aCons, aTup, aLst, aCall1, aCallD, aIx, aApp, aExt, aSetIx, aTru, sLen, sAny, sAll, sSum, sList, sTuple, fI, fC, fB, aSeqI, aRng1, aFor, aFrz, gN, aUnp, aLc, aYes, aCall, aRep, aRgT, turn, wipeA, br_true, br_false, List.map_nil, List.map_cons, List.nil_append, List.cons_append, List.replicate, List.getElem?_cons_zero, List.getElem?_cons_succ, List.set_cons_zero, List.set_cons_succ, List.length_cons, List.length_nil, enS_list, enS_tup, aNotT, aEnum, aRev, aAugD, sLt_int, sLt_ints, sRepT_tup, aCall2, sIsB_eq, sNotB_eq, aDnew, aSortD, ownD_own, aSda, aTupD, datAt_dat, sAllD, aSortSetI, isN_int, notN_int, sIn_int, sNotIn_int, sEq_int, sNe_int, sEq_bool, sNe_bool, sEq_str]
      exact ⟨small_le (by decide), kn _ ⟨r, t', l', s', r0, r1, hT', rfl⟩⟩
    rintro ρ ⟨z, t, l, s, z0, z1, hTp, rfl⟩
    refine cut (fun ρ => ∃ x11 : Option AV, NoOwn x11 ∧ ρ = [some (.dat (.list (ns.map PyData.int))), some (.own none (.lst (tape ns t l s))), some (.dat (.int (wd : Int))), some (.dat (eR rows)), some (.dat (tI key)), none, some (.dat (.int (countF rows key))), some (.dat (.tuple ((groupsF rows key).map eR))), some (.dat (.int (countF rows key))), x8, some (.dat (.list [.int 0, .int (countF rows key - 1), .int z])), x11, none, none, none, none, none, none, none, none, none, none, none, none, none, none]) (fun Kn kn => ?_) ?_
    · simp only [aName_eq, nm_dat, nm_own, dd_dat, dd_own, bb_bool, arg_dat, arg_own, arg_ali, das_nil, das_dat, cont_list, cont_tup, cont_own, cont_ali, contS_own, ownL_own, ownO_own, stor_dat, stor_own, iD_int, ii_int, i1_int, sAddU_int, sAddU_tup, truS_none, truS_bool, truS_int, truS_list, truS_tup, truS_ali, srcOf_list, srcOf_tup, srcOf_ali, Ab.got_some, gZ_nil, gC_cons, gT_tup, onlyDat_dat, notAli_dat, notAli_own, getO_some, fin_none, fin_some, finO_own, callA_nil, callA_dat, callA_ali, argS_none, argS_some, rt_ad, nx_ad, isN_none, isN_tup, notN_none, notN_tup, aNx, aRet, aIf, aSet, aAug, aDrop, aNever, aC, aBin, aBinR, aUn, aTst, aChain, aNot, aAnd, aOr, aIfE, aAndV, aOrV, aNotV, aNil, aCons, aTup, aLst, aCall1, aCallD, aIx, aApp, aExt, aSetIx, aTru, sLen, sAny, sAll, sSum, sList, sTuple, fI, fC, fB, aSeqI, aRng1, aFor, aFrz, gN, aUnp, aLc, aYes, aCall, aRep, aRgT, turn, wipeA, br_true, br_false, List.map_nil, List.map_cons, List.nil_append, List.cons_append, List.replicate, List.getElem?_cons_zero, List.getElem?_cons_succ, List.set_cons_zero, List.set_cons_succ, List.length_cons, List.length_nil, enS_list, enS_tup, aNotT, aEnum, aRev, aAugD, sLt_int, sLt_ints, sRepT_tup, aCall2, sIsB_eq, sNotB_eq, aDnew, aSortD, ownD_own, aSda, aTupD, datAt_dat, sAllD, aSortSetI, isN_int, notN_int, sIn_int, sNotIn_int, sEq_int, sNe_int, sEq_bool, sNe_bool, sEq_str]
      refine ⟨trivial, fun _ => trivial, ?_⟩
      refine for_inv (enc := PyData.int) (xs := [0, countF rows key - 1, z]) (fun pre ρ => ∃ x11 : Option AV, NoOwn x11 ∧ ρ = [some (.dat (.list (ns.map PyData.int))), some (.own none (.lst (tape ns t l s))), some (.dat (.int (wd : Int))), some (.dat (eR rows)), some (.dat (tI key)), none, some (.dat (.int (countF rows key))), some (.dat (.tuple ((groupsF rows key).map eR))), some (.dat (.int (countF rows key))), x8, some (.dat (.list [.int 0, .int (countF rows key - 1), .int z])), x11, none, none, none, none, none, none, none, none, none, none, none, none, none, none]) ⟨none, trivial, rfl⟩ ?_ ?_
      · rintro pre v post e ρ ⟨x11, n11, rfl⟩ Kn2 kn2
        have hv : v ∈ [0, countF rows key - 1, z] := by rw [e]; simp
        have hv2 : 0 ≤ v ∧ v < countF rows key := by
          simp only [List.mem_cons, List.not_mem_nil, or_false] at hv
          rcases hv with rfl | rfl | rfl <;> omega
        simp only [aName_eq, nm_dat, nm_own, dd_dat, dd_own, bb_bool, arg_dat, arg_own, arg_ali, das_nil, das_dat, cont_list, cont_tup, cont_own, cont_ali, contS_own, ownL_own, ownO_own, stor_dat, stor_own, iD_int, ii_int, i1_int, sAddU_int, sAddU_tup, truS_none, truS_bool, truS_int, truS_list, truS_tup, truS_ali, srcOf_list, srcOf_tup, srcOf_ali, Ab.got_some, gZ_nil, gC_cons, gT_tup, onlyDat_dat, notAli_dat, notAli_own, getO_some, fin_none, fin_some, finO_own, callA_nil, callA_dat, callA_ali, argS_none, argS_some, rt_ad, nx_ad, isN_none, isN_tup, notN_none, notN_tup, aNx, aRet, aIf, aSet, aAug, aDrop, aNever, aC, aBin, aBinR, aUn, aTst, aChain, aNot, aAnd, aOr, aIfE, aAndV, aOrV, aNotV, aNil, aCons, aTup, aLst, aCall1, aCallD, aIx, aApp, aExt, aSetIx, aTru, sLen, sAny, sAll, sSum, sList, sTuple, fI, fC, fB, aSeqI, aRng1, aFor, aFrz, gN, aUnp, aLc, aYes, aCall, aRep, aRgT, turn, wipeA, br_true, br_false, List.map_nil, List.map_cons, List.nil_append, List.cons_append, List.replicate, List.getElem?_cons_zero, List.getElem?_cons_succ, List.set_cons_zero, List.set_cons_succ, List.length_cons, List.length_nil, enS_list, enS_tup, aNotT, aEnum, aRev, aAugD, sLt_int, sLt_ints, sRepT_tup, aCall2, sIsB_eq, sNotB_eq, aDnew, aSortD, ownD_own, aSda, aTupD, datAt_dat, sAllD, aSortSetI, isN_int, notN_int, sIn_int, sNotIn_int, sEq_int, sNe_int, sEq_bool, sNe_bool, sEq_str, aSeq]
        refine ⟨wd, rows, key, v, rfl, rfl, hT, hv2.1, hv2.2, rfl, ?_⟩
        simp only [aName_eq, nm_dat, nm_own, dd_dat, dd_own, bb_bool, arg_dat, arg_own, arg_ali, das_nil, das_dat, cont_list, cont_tup, cont_own, cont_ali, contS_own, ownL_own, ownO_own, stor_dat, stor_own, iD_int, ii_int, i1_int, sAddU_int, sAddU_tup, truS_none, truS_bool, truS_int, truS_list, truS_tup, truS_ali, srcOf_list, srcOf_tup, srcOf_ali, Ab.got_some, gZ_nil, gC_cons, gT_tup, onlyDat_dat, notAli_dat, notAli_own, getO_some, fin_none, fin_some, finO_own, callA_nil, callA_dat, callA_ali, argS_none, argS_some, rt_ad, nx_ad, isN_none, isN_tup, notN_none, notN_tup, aNx, aRet, aIf, aSet, aAug, aDrop, aNever, aC, aBin, aBinR, aUn, aTst, aChain, aNot, aAnd, aOr, aIfE, aAndV, aOrV, aNotV, aNil, aCons, aTup, aLst, aCall1, aCallD, aIx, aApp, aExt, aSetIx, aTru, sLen, sAny, sAll, sSum, sList, sTuple, fI, fC, fB, aSeqI, aRng1, aFor, aFrz, gN, aUnp, aLc, aYes, aCall, aRep, aRgT, turn, wipeA, br_true, br_false, List.map_nil, List.map_cons, List.nil_append, List.cons_append, List.replicate, List.getElem?_cons_zero, List.getElem?_cons_succ, List.set_cons_zero, List.set_cons_succ, List.length_cons, List.length_nil, enS_list, enS_tup, aNotT, aEnum, aRev, aAugD, sLt_int, sLt_ints, sRepT_tup, aCall2, sIsB_eq, sNotB_eq, aDnew, aSortD, ownD_own, aSda, aTupD, datAt_dat, sAllD, aSortSetI, isN_int, notN_int, sIn_int, sNotIn_int, sEq_int, sNe_int, sEq_bool, sNe_bool, sEq_str, aSeq]
        refine ⟨wd, rows, key, mendF (groupsF rows key) v, rfl, rfl, hT, rfl, ?_⟩
        rw [(mendF_ch v hne).isMend]
        simp only [decide_true, Bool.not_true, aName_eq, nm_dat, nm_own, dd_dat, dd_own, bb_bool, arg_dat, arg_own, arg_ali, das_nil, das_dat, cont_list, cont_tup, cont_own, cont_ali, contS_own, ownL_own, ownO_own, stor_dat, stor_own, iD_int, ii_int, i1_int, sAddU_int, sAddU_tup, truS_none, truS_bool, truS_int, truS_list, truS_tup, truS_ali, srcOf_list, srcOf_tup, srcOf_ali, Ab.got_some, gZ_nil, gC_cons, gT_tup, onlyDat_dat, notAli_dat, notAli_own, getO_some, fin_none, fin_some, finO_own, callA_nil, callA_dat, callA_ali, argS_none, argS_some, rt_ad, nx_ad, isN_none, isN_tup, notN_none, notN_tup, aNx, aRet, aIf, aSet, aAug, aDrop, aNever, aC, aBin, aBinR, aUn, aTst, aChain, aNot, aAnd, aOr, aIfE, aAndV, aOrV, aNotV, aNil, aCons, aTup, aLst, aCall1, aCallD, aIx, aApp, aExt, aSetIx, aTru, sLen, sAny, sAll, sSum, sList, sTuple, fI, fC, fB, aSeqI, aRng1, aFor, aFrz, gN, aUnp, aLc, aYes, aCall, aRep, aRgT, turn, wipeA, br_true, br_false, List.map_nil, List.map_cons, List.nil_append, List.cons_append, List.replicate, List.getElem?_cons_zero, List.getElem?_cons_succ, List.set_cons_zero, List.set_cons_succ, List.length_cons, List.length_nil, enS_list, enS_tup, aNotT, aEnum, aRev, aAugD, sLt_int, sLt_ints, sRepT_tup, aCall2, sIsB_eq, sNotB_eq, aDnew, aSortD, ownD_own, aSda, aTupD, datAt_dat, sAllD, aSortSetI, isN_int, notN_int, sIn_int, sNotIn_int, sEq_int, sNe_int, sEq_bool, sNe_bool, sEq_str, aSeq]
        exact kn2 _ ⟨some (.dat (.int v)), trivial, rfl⟩
      · rintro ρ ⟨x11, n11, rfl⟩
        exact kn _ ⟨x11, n11, rfl⟩
    rintro ρ ⟨x11, n11, rfl⟩
    refine cut1 [some (.dat (.list (ns.map PyData.int))), some (.own none (.lst (tape ns t l s))), some (.dat (.int (wd : Int))), some (.dat (eR rows)), some (.dat (tI key)), none, some (.dat (.int (countF rows key))), some (.dat (.tuple ((groupsF rows key).map eR))), some (.dat (.int (countF rows key))), x8, some (.dat (.list [.int 0, .int (countF rows key - 1), .int z])), x11, none, none, none, none, none, none, none, none, none, none, none, none, none, none] (fun Kn kn => ?_) ?_
    · simp only [aName_eq, nm_dat, nm_own, dd_dat, dd_own, bb_bool, arg_dat, arg_own, arg_ali, das_nil, das_dat, cont_list, cont_tup, cont_own, cont_ali, contS_own, ownL_own, ownO_own, stor_dat, stor_own, iD_int, ii_int, i1_int, sAddU_int, sAddU_tup, truS_none, truS_bool, truS_int, truS_list, truS_tup, truS_ali, srcOf_list, srcOf_tup, srcOf_ali, Ab.got_some, gZ_nil, gC_cons, gT_tup, onlyDat_dat, notAli_dat, notAli_own, getO_some, fin_none, fin_some, finO_own, callA_nil, callA_dat, callA_ali, argS_none, argS_some, rt_ad, nx_ad, isN_none, isN_tup, notN_none, notN_tup, aNx, aRet, aIf, aSet, aAug, aDrop, aNever, aC, aBin, aBinR, aUn, aTst, aChain, aNot, aAnd, aOr, aIfE, aAndV, aOrV, aNotV, aNil, aCons, aTup, aLst, aCall1, aCallD, aIx, aApp, aExt, aSetIx, aTru, sLen, sAny, sAll, sSum, sList, sTuple, fI, fC, fB, aSeqI, aRng1, aFor, aFrz, gN, aUnp, aLc, aYes, aCall, aRep, aRgT, turn, wipeA, br_true, br_false, List.map_nil, List.map_cons, List.nil_append, List.cons_append, List.replicate, List.getElem?_cons_zero, List.getElem?_cons_succ, List.set_cons_zero, List.set_cons_succ, List.length_cons, List.length_nil, enS_list, enS_tup, aNotT, aEnum, aRev, aAugD, sLt_int, sLt_ints, sRepT_tup, aCall2, sIsB_eq, sNotB_eq, aDnew, aSortD, ownD_own, aSda, aTupD, datAt_dat, sAllD, aSortSetI, isN_int, notN_int, sIn_int, sNotIn_int, sEq_int, sNe_int, sEq_bool, sNe_bool, sEq_str]
      refine ⟨fun hh => ?_, fun _ => kn⟩
      have hh : 1 < countF rows key := of_decide_eq_true hh
      refine ⟨wd, rows, key, 0, rfl, rfl, hT, by omega, by omega, rfl, ?_⟩
      simp only [aName_eq, nm_dat, nm_own, dd_dat, dd_own, bb_bool, arg_dat, arg_own, arg_ali, das_nil, das_dat, cont_list, cont_tup, cont_own, cont_ali, contS_own, ownL_own, ownO_own, stor_dat, stor_own, iD_int, ii_int, i1_int, sAddU_int, sAddU_tup, truS_none, truS_bool, truS_int, truS_list, truS_tup, truS_ali, srcOf_list, srcOf_tup, srcOf_ali, Ab.got_some, gZ_nil, gC_cons, gT_tup, onlyDat_dat, notAli_dat, notAli_own, getO_some, fin_none, fin_some, finO_own, callA_nil, callA_dat, callA_ali, argS_none, argS_some, rt_ad, nx_ad, isN_none, isN_tup, notN_none, notN_tup, aNx, aRet, aIf, aSet, aAug, aDrop, aNever, aC, aBin, aBinR, aUn, aTst, aChain, aNot, aAnd, aOr, aIfE, aAndV, aOrV, aNotV, aNil, aCons, aTup, aLst, aCall1, aCallD, aIx, aApp, aExt, aSetIx, aTru, sLen, sAny, sAll, sSum, sList, sTuple, fI, fC, fB, aSeqI, aRng1, aFor, aFrz, gN, aUnp, aLc, aYes, aCall, aRep, aRgT, turn, wipeA, br_true, br_false, List.map_nil, List.map_cons, List.nil_append, List.cons_append, List.replicate, List.getElem?_cons_zero, List.getElem?_cons_succ, List.set_cons_zero, List.set_cons_succ, List.length_cons, List.length_nil, enS_list, enS_tup, aNotT, aEnum, aRev, aAugD, sLt_int, sLt_ints, sRepT_tup, aCall2, sIsB_eq, sNotB_eq, aDnew, aSortD, ownD_own, aSda, aTupD, datAt_dat, sAllD, aSortSetI, isN_int, notN_int, sIn_int, sNotIn_int, sEq_int, sNe_int, sEq_bool, sNe_bool, sEq_str]
      refine ⟨wd, rows, key, 1, rfl, rfl, hT, by omega, by omega, rfl, ?_⟩
      simp only [aName_eq, nm_dat, nm_own, dd_dat, dd_own, bb_bool, arg_dat, arg_own, arg_ali, das_nil, das_dat, cont_list, cont_tup, cont_own, cont_ali, contS_own, ownL_own, ownO_own, stor_dat, stor_own, iD_int, ii_int, i1_int, sAddU_int, sAddU_tup, truS_none, truS_bool, truS_int, truS_list, truS_tup, truS_ali, srcOf_list, srcOf_tup, srcOf_ali, Ab.got_some, gZ_nil, gC_cons, gT_tup, onlyDat_dat, notAli_dat, notAli_own, getO_some, fin_none, fin_some, finO_own, callA_nil, callA_dat, callA_ali, argS_none, argS_some, rt_ad, nx_ad, isN_none, isN_tup, notN_none, notN_tup, aNx, aRet, aIf, aSet, aAug, aDrop, aNever, aC, aBin, aBinR, aUn, aTst, aChain, aNot, aAnd, aOr, aIfE, aAndV, aOrV, aNotV, aNil, aCons, aTup, aLst, aCall1, aCallD, aIx, aApp, aExt, aSetIx, aTru, sLen, sAny, sAll, sSum, sList, sTuple, fI, fC, fB, aSeqI, aRng1, aFor, aFrz, gN, aUnp, aLc, aYes, aCall, aRep, aRgT, turn, wipeA, br_true, br_false, List.map_nil, List.map_cons, List.nil_append, List.cons_append, List.replicate, List.getElem?_cons_zero, List.getElem?_cons_succ, List.set_cons_zero, List.set_cons_succ, List.length_cons, List.length_nil, enS_list, enS_tup, aNotT, aEnum, aRev, aAugD, sLt_int, sLt_ints, sRepT_tup, aCall2, sIsB_eq, sNotB_eq, aDnew, aSortD, ownD_own, aSda, aTupD, datAt_dat, sAllD, aSortSetI, isN_int, notN_int, sIn_int, sNotIn_int, sEq_int, sNe_int, sEq_bool, sNe_bool, sEq_str]
      refine sLt_mend (fun g hg => ⟨hne g hg, hT.asc.sublist (hgk g hg).sub⟩) hh ?_
      simp only [Bool.not_true, aName_eq, nm_dat, nm_own, dd_dat, dd_own, bb_bool, arg_dat, arg_own, arg_ali, das_nil, das_dat, cont_list, cont_tup, cont_own, cont_ali, contS_own, ownL_own, ownO_own, stor_dat, stor_own, iD_int, ii_int, i1_int, sAddU_int, sAddU_tup, truS_none, truS_bool, truS_int, truS_list, truS_tup, truS_ali, srcOf_list, srcOf_tup, srcOf_ali, Ab.got_some, gZ_nil, gC_cons, gT_tup, onlyDat_dat, notAli_dat, notAli_own, getO_some, fin_none, fin_some, finO_own, callA_nil, callA_dat, callA_ali, argS_none, argS_some, rt_ad, nx_ad, isN_none, isN_tup, notN_none, notN_tup, aNx, aRet, aIf, aSet, aAug, aDrop, aNever, aC, aBin, aBinR, aUn, aTst, aChain, aNot, aAnd, aOr, aIfE, aAndV, aOrV, aNotV, aNil, aCons, aTup, aLst, aCall1, aCallD, aIx, aApp, aExt, aSetIx, aTru, sLen, sAny, sAll, sSum, sList, sTuple, fI, fC, fB, aSeqI, aRng1, aFor, aFrz, gN, aUnp, aLc, aYes, aCall, aRep, aRgT, turn, wipeA, br_true, br_false, List.map_nil, List.map_cons, List.nil_append, List.cons_append, List.replicate, List.getElem?_cons_zero, List.getElem?_cons_succ, List.set_cons_zero, List.set_cons_succ, List.length_cons, List.length_nil, enS_list, enS_tup, aNotT, aEnum, aRev, aAugD, sLt_int, sLt_ints, sRepT_tup, aCall2, sIsB_eq, sNotB_eq, aDnew, aSortD, ownD_own, aSda, aTupD, datAt_dat, sAllD, aSortSetI, isN_int, notN_int, sIn_int, sNotIn_int, sEq_int, sNe_int, sEq_bool, sNe_bool, sEq_str]
      exact kn
    refine cut (fun ρ => ∃ (q : Ques) (t l s : Int), q.length = wd ∧ OkTape ns t l s ∧ ρ = [some (.dat (.list (ns.map PyData.int))), some (.own none (.lst (tape ns t l s))), some (.dat (.int (wd : Int))), some (.dat (eR rows)), some (.dat (tI key)), none, some (.dat (.int (countF rows key))), some (.dat (.tuple ((groupsF rows key).map eR))), some (.dat (.int (countF rows key))), x8, some (.dat (.list [.int 0, .int (countF rows key - 1), .int z])), x11, some (.dat (eQ q)), none, none, none, none, none, none, none, none, none, none, none, none, none]) (fun Kn kn => ?_) ?_
    · simp only [aName_eq, nm_dat, nm_own, dd_dat, dd_own, bb_bool, arg_dat, arg_own, arg_ali, das_nil, das_dat, cont_list, cont_tup, cont_own, cont_ali, contS_own, ownL_own, ownO_own, stor_dat, stor_own, iD_int, ii_int, i1_int, sAddU_int, sAddU_tup, truS_none, truS_bool, truS_int, truS_list, truS_tup, truS_ali, srcOf_list, srcOf_tup, srcOf_ali, Ab.got_some, gZ_nil, gC_cons, gT_tup, onlyDat_dat, notAli_dat, notAli_own, getO_some, fin_none, fin_some, finO_own, callA_nil, callA_dat, callA_ali, argS_none, argS_some, rt_ad, nx_ad, isN_none, isN_tup, notN_none, notN_tup, aNx, aRet, aIf, aSet, aAug, aDrop, aNever, aC, aBin, aBinR, aUn, aTst, aChain, aNot, aAnd, aOr, aIfE, aAndV, aOrV, aNotV, aNil, aCons, aTup, aLst, aCall1, aCallD, aIx, aApp, aExt, aSetIx, aTru, sLen, sAny, sAll, sSum, sList, sTuple, fI, fC, fB, aSeqI, aRng1, aFor, aFrz, gN, aUnp, aLc, aYes, aCall, aRep, aRgT, turn, wipeA, br_true, br_false, List.map_nil, List.map_cons, List.nil_append, List.cons_append, List.replicate, List.getElem?_cons_zero, List.getElem?_cons_succ, List.set_cons_zero, List.set_cons_succ, List.length_cons, List.length_nil, enS_list, enS_tup, aNotT, aEnum, aRev, aAugD, sLt_int, sLt_ints, sRepT_tup, aCall2, sIsB_eq, sNotB_eq, aDnew, aSortD, ownD_own, aSda, aTupD, datAt_dat, sAllD, aSortSetI, isN_int, notN_int, sIn_int, sNotIn_int, sEq_int, sNe_int, sEq_bool, sNe_bool, sEq_str]
      refine ⟨by omega, by omega, ?_⟩
      rw [rangeD0]
      refine lc_inv (enc := fun (q : Nat) => PyData.int (q : Int)) (fun pre acc ρ => ∃ (q : Ques) (t l s : Int), q.length = pre.length ∧ acc = q.map oI ∧ OkTape ns t l s ∧ ρ = [some (.dat (.list (ns.map PyData.int))), some (.own none (.lst (tape ns t l s))), some (.dat (.int (wd : Int))), some (.dat (eR rows)), some (.dat (tI key)), none, some (.dat (.int (countF rows key))), some (.dat (.tuple ((groupsF rows key).map eR))), some (.dat (.int (countF rows key))), x8, some (.dat (.list [.int 0, .int (countF rows key - 1), .int z])), x11, none, none, none, none, none, none, none, none, none, none, none, none, none, none])
        ⟨[], t, l, s, rfl, rfl, hTp, rfl⟩ (small_len (by simp; omega)) (fun pre acc ρ hI => ?_) ?_ ?_
      · obtain ⟨rows, t, l, s, _, _, _, rfl⟩ := hI
        exact ⟨trivial, by simp [Ab.freeOf]⟩
      · rintro pre x post e acc ρ ⟨q, t, l, s, j1, j3, j4, rfl⟩ Ka Ks ka ks
        simp only [aName_eq, nm_dat, nm_own, dd_dat, dd_own, bb_bool, arg_dat, arg_own, arg_ali, das_nil, das_dat, cont_list, cont_tup, cont_own, cont_ali, contS_own, ownL_own, ownO_own, stor_dat, stor_own, iD_int, ii_int, i1_int, sAddU_int, sAddU_tup, truS_none, truS_bool, truS_int, truS_list, truS_tup, truS_ali, srcOf_list, srcOf_tup, srcOf_ali, Ab.got_some, gZ_nil, gC_cons, gT_tup, onlyDat_dat, notAli_dat, notAli_own, getO_some, fin_none, fin_some, finO_own, callA_nil, callA_dat, callA_ali, argS_none, argS_some, rt_ad, nx_ad, isN_none, isN_tup, notN_none, notN_tup, aNx, aRet, aIf, aSet, aAug, aDrop, aNever, aC, aBin, aBinR, aUn, aTst, aChain, aNot, aAnd, aOr, aIfE, aAndV, aOrV, aNotV, aNil, aCons, aTup, aLst, aCall1, aCallD, aIx, aApp, aExt, aSetIx, aTru, sLen, sAny, sAll, sSum, sList, sTuple, fI, fC, fB, aSeqI, aRng1, aFor, aFrz, gN, aUnp, aLc, aYes, aCall, aRep, aRgT, turn, wipeA, br_true, br_false, List.map_nil, List.map_cons, List.nil_append, List.cons_append, List.replicate, List.getElem?_cons_zero, List.getElem?_cons_succ, List.set_cons_zero, List.set_cons_succ, List.length_cons, List.length_nil, enS_list, enS_tup, aNotT, aEnum, aRev, aAugD, sLt_int, sLt_ints, sRepT_tup, aCall2, sIsB_eq, sNotB_eq, aDnew, aSortD, ownD_own, aSda, aTupD, datAt_dat, sAllD, aSortSetI, isN_int, notN_int, sIn_int, sNotIn_int, sEq_int, sNe_int, sEq_bool, sNe_bool, sEq_str]
        refine ⟨ns, t, l, s, 3, rfl, rfl, j4, by decide, by decide, fun v t' l' s' v0 v1 hT' => ?_⟩
        simp only [aName_eq, nm_dat, nm_own, dd_dat, dd_own, bb_bool, arg_dat, arg_own, arg_ali, das_nil, das_dat, cont_list, cont_tup, cont_own, cont_ali, contS_own, ownL_own, ownO_own, stor_dat, stor_own, iD_int, ii_int, i1_int, sAddU_int, sAddU_tup, truS_none, truS_bool, truS_int, truS_list, truS_tup, truS_ali, srcOf_list, srcOf_tup, srcOf_ali, Ab.got_some, gZ_nil, gC_cons, gT_tup, onlyDat_dat, notAli_dat, notAli_own, getO_some, fin_none, fin_some, finO_own, callA_nil, callA_dat, callA_ali, argS_none, argS_some, rt_ad, nx_ad, isN_none, isN_tup, notN_none, notN_tup, aNx, aRet, aIf, aSet, aAug, aDrop, aNever, aC, aBin, aBinR, aUn, aTst, aChain, aNot, aAnd, aOr, aIfE, aAndV, aOrV, aNotV, aNil, aCons, aTup, aLst, aCall1, aCallD, aIx, aApp, aExt, aSetIx, aTru, sLen, sAny, sAll, sSum, sList, sTuple, fI, fC, fB, aSeqI, aRng1, aFor, aFrz, gN, aUnp, aLc, aYes, aCall, aRep, aRgT, turn, wipeA, br_true, br_false, List.map_nil, List.map_cons, List.nil_append, List.cons_append, List.replicate, List.getElem?_cons_zero, List.getElem?_cons_succ, List.set_cons_zero, List.set_cons_succ, List.length_cons, List.length_nil, enS_list, enS_tup, aNotT, aEnum, aRev, aAugD, sLt_int, sLt_ints, sRepT_tup, aCall2, sIsB_eq, sNotB_eq, aDnew, aSortD, ownD_own, aSda, aTupD, datAt_dat, sAllD, aSortSetI, isN_int, notN_int, sIn_int, sNotIn_int, sEq_int, sNe_int, sEq_bool, sNe_bool, sEq_str]
        refine ⟨small_le (by decide), ns, t', l', s', 2, rfl, rfl, hT', by decide, by decide, fun r t' l' s' r0 r1 hT' => ?_⟩
        have h01 : r = 0 ∨ r = 1 := by omega
        rcases h01 with rfl | rfl
        · simp only [at_0, aName_eq, nm_dat, nm_own, dd_dat, dd_own, bb_bool, arg_dat, arg_own, arg_ali, das_nil, das_dat, cont_list, cont_tup, cont_own, cont_ali, contS_own, ownL_own, ownO_own, stor_dat, stor_own, iD_int, ii_int, i1_int, sAddU_int, sAddU_tup, truS_none, truS_bool, truS_int, truS_list, truS_tup, truS_ali, srcOf_list, srcOf_tup, srcOf_ali, Ab.got_some, gZ_nil, gC_cons, gT_tup, onlyDat_dat, notAli_dat, notAli_own, getO_some, fin_none, fin_some, finO_own, callA_nil, callA_dat, callA_ali, argS_none, argS_some, rt_ad, nx_ad, isN_none, isN_tup, notN_none, notN_tup, aNx, aRet, aIf, aSet, aAug, aDrop, aNever, aC, aBin, aBinR, aUn, aTst, aChain, aNot, aAnd, aOr, aIfE, aAndV, aOrV, aNotV, aNil, aCons, aTup, aLst, aCall1, aCallD, aIx, aApp, aExt, aSetIx, aTru, sLen, sAny, sAll, sSum, sList, sTuple, fI, fC, fB, aSeqI, aRng1, aFor, aFrz, gN, aUnp, aLc, aYes, aCall, aRep, aRgT, turn, wipeA, br_true, br_false, List.map_nil, List.map_cons, List.nil_append, List.cons_append, List.replicate, List.getElem?_cons_zero, List.getElem?_cons_succ, List.set_cons_zero, List.set_cons_succ, List.length_cons, List.length_nil, enS_list, enS_tup, aNotT, aEnum, aRev, aAugD, sLt_int, sLt_ints, sRepT_tup, aCall2, sIsB_eq, sNotB_eq, aDnew, aSortD, ownD_own, aSda, aTupD, datAt_dat, sAllD, aSortSetI, isN_int, notN_int, sIn_int, sNotIn_int, sEq_int, sNe_int, sEq_bool, sNe_bool, sEq_str]
          exact ka _ _ ⟨q ++ [none], t', l', s', by simp [j1], by rw [j3, List.map_append]; rfl, hT', rfl⟩
        · simp only [at_1, aName_eq, nm_dat, nm_own, dd_dat, dd_own, bb_bool, arg_dat, arg_own, arg_ali, das_nil, das_dat, cont_list, cont_tup, cont_own, cont_ali, contS_own, ownL_own, ownO_own, stor_dat, stor_own, iD_int, ii_int, i1_int, sAddU_int, sAddU_tup, truS_none, truS_bool, truS_int, truS_list, truS_tup, truS_ali, srcOf_list, srcOf_tup, srcOf_ali, Ab.got_some, gZ_nil, gC_cons, gT_tup, onlyDat_dat, notAli_dat, notAli_own, getO_some, fin_none, fin_some, finO_own, callA_nil, callA_dat, callA_ali, argS_none, argS_some, rt_ad, nx_ad, isN_none, isN_tup, notN_none, notN_tup, aNx, aRet, aIf, aSet, aAug, aDrop, aNever, aC, aBin, aBinR, aUn, aTst, aChain, aNot, aAnd, aOr, aIfE, aAndV, aOrV, aNotV, aNil, aCons, aTup, aLst, aCall1, aCallD, aIx, aApp, aExt, aSetIx, aTru, sLen, sAny, sAll, sSum, sList, sTuple, fI, fC, fB, aSeqI, aRng1, aFor, aFrz, gN, aUnp, aLc, aYes, aCall, aRep, aRgT, turn, wipeA, br_true, br_false, List.map_nil, List.map_cons, List.nil_append, List.cons_append, List.replicate, List.getElem?_cons_zero, List.getElem?_cons_succ, List.set_cons_zero, List.set_cons_succ, List.length_cons, List.length_nil, enS_list, enS_tup, aNotT, aEnum, aRev, aAugD, sLt_int, sLt_ints, sRepT_tup, aCall2, sIsB_eq, sNotB_eq, aDnew, aSortD, ownD_own, aSda, aTupD, datAt_dat, sAllD, aSortSetI, isN_int, notN_int, sIn_int, sNotIn_int, sEq_int, sNe_int, sEq_bool, sNe_bool, sEq_str]
          exact ka _ _ ⟨q ++ [some v], t', l', s', by simp [j1], by rw [j3, List.map_append]; rfl, hT', rfl⟩
      · rintro acc ρ ⟨q, t, l, s, j1, rfl, j4, rfl⟩
        rw [List.length_range] at j1
        simp only [aName_eq, nm_dat, nm_own, dd_dat, dd_own, bb_bool, arg_dat, arg_own, arg_ali, das_nil, das_dat, cont_list, cont_tup, cont_own, cont_ali, contS_own, ownL_own, ownO_own, stor_dat, stor_own, iD_int, ii_int, i1_int, sAddU_int, sAddU_tup, truS_none, truS_bool, truS_int, truS_list, truS_tup, truS_ali, srcOf_list, srcOf_tup, srcOf_ali, Ab.got_some, gZ_nil, gC_cons, gT_tup, onlyDat_dat, notAli_dat, notAli_own, getO_some, fin_none, fin_some, finO_own, callA_nil, callA_dat, callA_ali, argS_none, argS_some, rt_ad, nx_ad, isN_none, isN_tup, notN_none, notN_tup, aNx, aRet, aIf, aSet, aAug, aDrop, aNever, aC, aBin, aBinR, aUn, aTst, aChain, aNot, aAnd, aOr, aIfE, aAndV, aOrV, aNotV, aNil, aCons, aTup, aLst, aCall1, aCallD, aIx, aApp, aExt, aSetIx, aTru, sLen, sAny, sAll, sSum, sList, sTuple, fI, fC, fB, aSeqI, aRng1, aFor, aFrz, gN, aUnp, aLc, aYes, aCall, aRep, aRgT, turn, wipeA, br_true, br_false, List.map_nil, List.map_cons, List.nil_append, List.cons_append, List.replicate, List.getElem?_cons_zero, List.getElem?_cons_succ, List.set_cons_zero, List.set_cons_succ, List.length_cons, List.length_nil, enS_list, enS_tup, aNotT, aEnum, aRev, aAugD, sLt_int, sLt_ints, sRepT_tup, aCall2, sIsB_eq, sNotB_eq, aDnew, aSortD, ownD_own, aSda, aTupD, datAt_dat, sAllD, aSortSetI, isN_int, notN_int, sIn_int, sNotIn_int, sEq_int, sNe_int, sEq_bool, sNe_bool, sEq_str]
        exact kn _ ⟨q, t, l, s, by omega, j4, rfl⟩
    rintro ρ ⟨q, t, l, s, hq, hTp, rfl⟩
    refine cut1 [some (.dat (.list (ns.map PyData.int))), some (.own none (.lst (tape ns t l s))), some (.dat (.int (wd : Int))), some (.dat (eR rows)), some (.dat (tI key)), none, some (.dat (.int (countF rows key))), some (.dat (.tuple ((groupsF rows key).map eR))), some (.dat (.int (countF rows key))), x8, some (.dat (.list [.int 0, .int (countF rows key - 1), .int z])), x11, some (.dat (eQ q)), some (.dat (.int (countF rows key - without q (groupsF rows key)))), some (.dat (.int (countF rows key))), none, none, none, none, none, none, none, none, none, none, none] (fun Kn kn => ?_) ?_
    · simp only [aName_eq, nm_dat, nm_own, dd_dat, dd_own, bb_bool, arg_dat, arg_own, arg_ali, das_nil, das_dat, cont_list, cont_tup, cont_own, cont_ali, contS_own, ownL_own, ownO_own, stor_dat, stor_own, iD_int, ii_int, i1_int, sAddU_int, sAddU_tup, truS_none, truS_bool, truS_int, truS_list, truS_tup, truS_ali, srcOf_list, srcOf_tup, srcOf_ali, Ab.got_some, gZ_nil, gC_cons, gT_tup, onlyDat_dat, notAli_dat, notAli_own, getO_some, fin_none, fin_some, finO_own, callA_nil, callA_dat, callA_ali, argS_none, argS_some, rt_ad, nx_ad, isN_none, isN_tup, notN_none, notN_tup, aNx, aRet, aIf, aSet, aAug, aDrop, aNever, aC, aBin, aBinR, aUn, aTst, aChain, aNot, aAnd, aOr, aIfE, aAndV, aOrV, aNotV, aNil, aCons, aTup, aLst, aCall1, aCallD, aIx, aApp, aExt, aSetIx, aTru, sLen, sAny, sAll, sSum, sList, sTuple, fI, fC, fB, aSeqI, aRng1, aFor, aFrz, gN, aUnp, aLc, aYes, aCall, aRep, aRgT, turn, wipeA, br_true, br_false, List.map_nil, List.map_cons, List.nil_append, List.cons_append, List.replicate, List.getElem?_cons_zero, List.getElem?_cons_succ, List.set_cons_zero, List.set_cons_succ, List.length_cons, List.length_nil, enS_list, enS_tup, aNotT, aEnum, aRev, aAugD, sLt_int, sLt_ints, sRepT_tup, aCall2, sIsB_eq, sNotB_eq, aDnew, aSortD, ownD_own, aSda, aTupD, datAt_dat, sAllD, aSortSetI, isN_int, notN_int, sIn_int, sNotIn_int, sEq_int, sNe_int, sEq_bool, sNe_bool, sEq_str]
      refine ⟨wd, rows, key, q, rfl, rfl, hT, hq, rfl, ?_⟩
      simp only [aName_eq, nm_dat, nm_own, dd_dat, dd_own, bb_bool, arg_dat, arg_own, arg_ali, das_nil, das_dat, cont_list, cont_tup, cont_own, cont_ali, contS_own, ownL_own, ownO_own, stor_dat, stor_own, iD_int, ii_int, i1_int, sAddU_int, sAddU_tup, truS_none, truS_bool, truS_int, truS_list, truS_tup, truS_ali, srcOf_list, srcOf_tup, srcOf_ali, Ab.got_some, gZ_nil, gC_cons, gT_tup, onlyDat_dat, notAli_dat, notAli_own, getO_some, fin_none, fin_some, finO_own, callA_nil, callA_dat, callA_ali, argS_none, argS_some, rt_ad, nx_ad, isN_none, isN_tup, notN_none, notN_tup, aNx, aRet, aIf, aSet, aAug, aDrop, aNever, aC, aBin, aBinR, aUn, aTst, aChain, aNot, aAnd, aOr, aIfE, aAndV, aOrV, aNotV, aNil, aCons, aTup, aLst, aCall1, aCallD, aIx, aApp, aExt, aSetIx, aTru, sLen, sAny, sAll, sSum, sList, sTuple, fI, fC, fB, aSeqI, aRng1, aFor, aFrz, gN, aUnp, aLc, aYes, aCall, aRep, aRgT, turn, wipeA, br_true, br_false, List.map_nil, List.map_cons, List.nil_append, List.cons_append, List.replicate, List.getElem?_cons_zero, List.getElem?_cons_succ, List.set_cons_zero, List.set_cons_succ, List.length_cons, List.length_nil, enS_list, enS_tup, aNotT, aEnum, aRev, aAugD, sLt_int, sLt_ints, sRepT_tup, aCall2, sIsB_eq, sNotB_eq, aDnew, aSortD, ownD_own, aSda, aTupD, datAt_dat, sAllD, aSortSetI, isN_int, notN_int, sIn_int, sNotIn_int, sEq_int, sNe_int, sEq_bool, sNe_bool, sEq_str]
      exact ⟨trivial, kn⟩
    refine cut (fun ρ => ∃ (kind told : PyData), (kind = sv "sure" ∧ (groupsF rows key).any (fun g => (left q g).isEmpty) = true ∨ kind = sv "not" ∧ (groupsF rows key).any (fun g => (left q g).isEmpty) = false) ∧ ρ = [some (.dat (.list (ns.map PyData.int))), some (.own none (.lst (tape ns t l s))), some (.dat (.int (wd : Int))), some (.dat (eR rows)), some (.dat (tI key)), none, some (.dat (.int (countF rows key))), some (.dat (.tuple ((groupsF rows key).map eR))), some (.dat (.int (countF rows key))), x8, some (.dat (.list [.int 0, .int (countF rows key - 1), .int z])), x11, some (.dat (eQ q)), some (.dat (.int (countF rows key - without q (groupsF rows key)))), some (.dat (.int (countF rows key))), some (.dat (kind)), some (.dat (told)), none, none, none, none, none, none, none, none, none]) (fun Kn kn => ?_) ?_
    · simp only [aName_eq, nm_dat, nm_own, dd_dat, dd_own, bb_bool, arg_dat, arg_own, arg_ali, das_nil, das_dat, cont_list, cont_tup, cont_own, cont_ali, contS_own, ownL_own, ownO_own, stor_dat, stor_own, iD_int, ii_int, i1_int, sAddU_int, sAddU_tup, truS_none, truS_bool, truS_int, truS_list, truS_tup, truS_ali, srcOf_list, srcOf_tup, srcOf_ali, Ab.got_some, gZ_nil, gC_cons, gT_tup, onlyDat_dat, notAli_dat, notAli_own, getO_some, fin_none, fin_some, finO_own, callA_nil, callA_dat, callA_ali, argS_none, argS_some, rt_ad, nx_ad, isN_none, isN_tup, notN_none, notN_tup, aNx, aRet, aIf, aSet, aAug, aDrop, aNever, aC, aBin, aBinR, aUn, aTst, aChain, aNot, aAnd, aOr, aIfE, aAndV, aOrV, aNotV, aNil, aCons, aTup, aLst, aCall1, aCallD, aIx, aApp, aExt, aSetIx, aTru, sLen, sAny, sAll, sSum, sList, sTuple, fI, fC, fB, aSeqI, aRng1, aFor, aFrz, gN, aUnp, aLc, aYes, aCall, aRep, aRgT, turn, wipeA, br_true, br_false, List.map_nil, List.map_cons, List.nil_append, List.cons_append, List.replicate, List.getElem?_cons_zero, List.getElem?_cons_succ, List.set_cons_zero, List.set_cons_succ, List.length_cons, List.length_nil, enS_list, enS_tup, aNotT, aEnum, aRev, aAugD, sLt_int, sLt_ints, sRepT_tup, aCall2, sIsB_eq, sNotB_eq, aDnew, aSortD, ownD_own, aSda, aTupD, datAt_dat, sAllD, aSortSetI, isN_int, notN_int, sIn_int, sNotIn_int, sEq_int, sNe_int, sEq_bool, sNe_bool, sEq_str]
      refine ⟨wd, rows, key, q, rfl, rfl, hT, hq, rfl, ?_⟩
      rcases sure_two q (groupsF rows key) with ⟨i, e, ha⟩ | ⟨x, e, ha⟩
      · rw [e]
        simp only [aName_eq, nm_dat, nm_own, dd_dat, dd_own, bb_bool, arg_dat, arg_own, arg_ali, das_nil, das_dat, cont_list, cont_tup, cont_own, cont_ali, contS_own, ownL_own, ownO_own, stor_dat, stor_own, iD_int, ii_int, i1_int, sAddU_int, sAddU_tup, truS_none, truS_bool, truS_int, truS_list, truS_tup, truS_ali, srcOf_list, srcOf_tup, srcOf_ali, Ab.got_some, gZ_nil, gC_cons, gT_tup, onlyDat_dat, notAli_dat, notAli_own, getO_some, fin_none, fin_some, finO_own, callA_nil, callA_dat, callA_ali, argS_none, argS_some, rt_ad, nx_ad, isN_none, isN_tup, notN_none, notN_tup, aNx, aRet, aIf, aSet, aAug, aDrop, aNever, aC, aBin, aBinR, aUn, aTst, aChain, aNot, aAnd, aOr, aIfE, aAndV, aOrV, aNotV, aNil, aCons, aTup, aLst, aCall1, aCallD, aIx, aApp, aExt, aSetIx, aTru, sLen, sAny, sAll, sSum, sList, sTuple, fI, fC, fB, aSeqI, aRng1, aFor, aFrz, gN, aUnp, aLc, aYes, aCall, aRep, aRgT, turn, wipeA, br_true, br_false, List.map_nil, List.map_cons, List.nil_append, List.cons_append, List.replicate, List.getElem?_cons_zero, List.getElem?_cons_succ, List.set_cons_zero, List.set_cons_succ, List.length_cons, List.length_nil, enS_list, enS_tup, aNotT, aEnum, aRev, aAugD, sLt_int, sLt_ints, sRepT_tup, aCall2, sIsB_eq, sNotB_eq, aDnew, aSortD, ownD_own, aSda, aTupD, datAt_dat, sAllD, aSortSetI, isN_int, notN_int, sIn_int, sNotIn_int, sEq_int, sNe_int, sEq_bool, sNe_bool, sEq_str]
        exact ⟨trivial, kn _ ⟨_, _, .inl ⟨rfl, ha⟩, rfl⟩⟩
      · rw [e]
        simp only [aName_eq, nm_dat, nm_own, dd_dat, dd_own, bb_bool, arg_dat, arg_own, arg_ali, das_nil, das_dat, cont_list, cont_tup, cont_own, cont_ali, contS_own, ownL_own, ownO_own, stor_dat, stor_own, iD_int, ii_int, i1_int, sAddU_int, sAddU_tup, truS_none, truS_bool, truS_int, truS_list, truS_tup, truS_ali, srcOf_list, srcOf_tup, srcOf_ali, Ab.got_some, gZ_nil, gC_cons, gT_tup, onlyDat_dat, notAli_dat, notAli_own, getO_some, fin_none, fin_some, finO_own, callA_nil, callA_dat, callA_ali, argS_none, argS_some, rt_ad, nx_ad, isN_none, isN_tup, notN_none, notN_tup, aNx, aRet, aIf, aSet, aAug, aDrop, aNever, aC, aBin, aBinR, aUn, aTst, aChain, aNot, aAnd, aOr, aIfE, aAndV, aOrV, aNotV, aNil, aCons, aTup, aLst, aCall1, aCallD, aIx, aApp, aExt, aSetIx, aTru, sLen, sAny, sAll, sSum, sList, sTuple, fI, fC, fB, aSeqI, aRng1, aFor, aFrz, gN, aUnp, aLc, aYes, aCall, aRep, aRgT, turn, wipeA, br_true, br_false, List.map_nil, List.map_cons, List.nil_append, List.cons_append, List.replicate, List.getElem?_cons_zero, List.getElem?_cons_succ, List.set_cons_zero, List.set_cons_succ, List.length_cons, List.length_nil, enS_list, enS_tup, aNotT, aEnum, aRev, aAugD, sLt_int, sLt_ints, sRepT_tup, aCall2, sIsB_eq, sNotB_eq, aDnew, aSortD, ownD_own, aSda, aTupD, datAt_dat, sAllD, aSortSetI, isN_int, notN_int, sIn_int, sNotIn_int, sEq_int, sNe_int, sEq_bool, sNe_bool, sEq_str]
        exact ⟨trivial, kn _ ⟨_, _, .inr ⟨rfl, ha⟩, rfl⟩⟩
    rintro ρ ⟨kind, told, hkind, rfl⟩
    refine cut1 [some (.dat (.list (ns.map PyData.int))), some (.own none (.lst (tape ns t l s))), some (.dat (.int (wd : Int))), some (.dat (eR rows)), some (.dat (tI key)), none, some (.dat (.int (countF rows key))), some (.dat (.tuple ((groupsF rows key).map eR))), some (.dat (.int (countF rows key))), x8, some (.dat (.list [.int 0, .int (countF rows key - 1), .int z])), x11, some (.dat (eQ q)), some (.dat (.int (countF rows key - without q (groupsF rows key)))), some (.dat (.int (countF rows key))), some (.dat (kind)), some (.dat (told)), some (.dat (.int (nAll q (groupsF rows key) : Nat))), some (.dat (.int (nAny q (groupsF rows key) : Nat))), none, none, none, none, none, none, none] (fun Kn kn => ?_) ?_
    · simp only [aName_eq, nm_dat, nm_own, dd_dat, dd_own, bb_bool, arg_dat, arg_own, arg_ali, das_nil, das_dat, cont_list, cont_tup, cont_own, cont_ali, contS_own, ownL_own, ownO_own, stor_dat, stor_own, iD_int, ii_int, i1_int, sAddU_int, sAddU_tup, truS_none, truS_bool, truS_int, truS_list, truS_tup, truS_ali, srcOf_list, srcOf_tup, srcOf_ali, Ab.got_some, gZ_nil, gC_cons, gT_tup, onlyDat_dat, notAli_dat, notAli_own, getO_some, fin_none, fin_some, finO_own, callA_nil, callA_dat, callA_ali, argS_none, argS_some, rt_ad, nx_ad, isN_none, isN_tup, notN_none, notN_tup, aNx, aRet, aIf, aSet, aAug, aDrop, aNever, aC, aBin, aBinR, aUn, aTst, aChain, aNot, aAnd, aOr, aIfE, aAndV, aOrV, aNotV, aNil, aCons, aTup, aLst, aCall1, aCallD, aIx, aApp, aExt, aSetIx, aTru, sLen, sAny, sAll, sSum, sList, sTuple, fI, fC, fB, aSeqI, aRng1, aFor, aFrz, gN, aUnp, aLc, aYes, aCall, aRep, aRgT, turn, wipeA, br_true, br_false, List.map_nil, List.map_cons, List.nil_append, List.cons_append, List.replicate, List.getElem?_cons_zero, List.getElem?_cons_succ, List.set_cons_zero, List.set_cons_succ, List.length_cons, List.length_nil, enS_list, enS_tup, aNotT, aEnum, aRev, aAugD, sLt_int, sLt_ints, sRepT_tup, aCall2, sIsB_eq, sNotB_eq, aDnew, aSortD, ownD_own, aSda, aTupD, datAt_dat, sAllD, aSortSetI, isN_int, notN_int, sIn_int, sNotIn_int, sEq_int, sNe_int, sEq_bool, sNe_bool, sEq_str]
      refine ⟨wd, rows, key, q, rfl, rfl, hT, hq, rfl, ?_⟩
      simp only [aName_eq, nm_dat, nm_own, dd_dat, dd_own, bb_bool, arg_dat, arg_own, arg_ali, das_nil, das_dat, cont_list, cont_tup, cont_own, cont_ali, contS_own, ownL_own, ownO_own, stor_dat, stor_own, iD_int, ii_int, i1_int, sAddU_int, sAddU_tup, truS_none, truS_bool, truS_int, truS_list, truS_tup, truS_ali, srcOf_list, srcOf_tup, srcOf_ali, Ab.got_some, gZ_nil, gC_cons, gT_tup, onlyDat_dat, notAli_dat, notAli_own, getO_some, fin_none, fin_some, finO_own, callA_nil, callA_dat, callA_ali, argS_none, argS_some, rt_ad, nx_ad, isN_none, isN_tup, notN_none, notN_tup, aNx, aRet, aIf, aSet, aAug, aDrop, aNever, aC, aBin, aBinR, aUn, aTst, aChain, aNot, aAnd, aOr, aIfE, aAndV, aOrV, aNotV, aNil, aCons, aTup, aLst, aCall1, aCallD, aIx, aApp, aExt, aSetIx, aTru, sLen, sAny, sAll, sSum, sList, sTuple, fI, fC, fB, aSeqI, aRng1, aFor, aFrz, gN, aUnp, aLc, aYes, aCall, aRep, aRgT, turn, wipeA, br_true, br_false, List.map_nil, List.map_cons, List.nil_append, List.cons_append, List.replicate, List.getElem?_cons_zero, List.getElem?_cons_succ, List.set_cons_zero, List.set_cons_succ, List.length_cons, List.length_nil, enS_list, enS_tup, aNotT, aEnum, aRev, aAugD, sLt_int, sLt_ints, sRepT_tup, aCall2, sIsB_eq, sNotB_eq, aDnew, aSortD, ownD_own, aSda, aTupD, datAt_dat, sAllD, aSortSetI, isN_int, notN_int, sIn_int, sNotIn_int, sEq_int, sNe_int, sEq_bool, sNe_bool, sEq_str]
      exact ⟨trivial, kn⟩
    have hw0 := without_zero (q := q) (gs := groupsF rows key)
    have hall := nAll_pos (q := q) (gs := groupsF rows key)
    have hany := nAny_pos (q := q) hne
    have hpc : prodL (groupsF rows key) = countF rows key := rfl
    rw [hpc] at hany
    refine cut1 [some (.dat (.list (ns.map PyData.int))), some (.own none (.lst (tape ns t l s))), some (.dat (.int (wd : Int))), some (.dat (eR rows)), some (.dat (tI key)), none, some (.dat (.int (countF rows key))), some (.dat (.tuple ((groupsF rows key).map eR))), some (.dat (.int (countF rows key))), x8, some (.dat (.list [.int 0, .int (countF rows key - 1), .int z])), x11, some (.dat (eQ q)), some (.dat (.int (countF rows key - without q (groupsF rows key)))), some (.dat (.int (countF rows key))), some (.dat (kind)), some (.dat (told)), some (.dat (.int (nAll q (groupsF rows key) : Nat))), some (.dat (.int (nAny q (groupsF rows key) : Nat))), none, none, none, none, none, none, none] (fun Kn kn => ?_) ?_
    · have b3 : decide (0 < ((nAny q (groupsF rows key) : Nat) : Int)) = decide (0 < countF rows key - without q (groupsF rows key)) := by
        rw [decide_eq_decide]
        rw [← hany]
        omega
      rcases hkind with ⟨rfl, hs⟩ | ⟨rfl, hs⟩
      · have e1 : decide (Str.ofString "sure" = Str.ofString "sure") = true := decide_eq_true rfl
        have b1 : decide (countF rows key - without q (groupsF rows key) = countF rows key) = true := decide_eq_true (by have := hw0.mpr hs; omega)
        have b2 : decide (0 < ((nAll q (groupsF rows key) : Nat) : Int)) = true := decide_eq_true (by have := hall.mpr hs; omega)
        simp only [sv, e1, b1, b2, b3, decide_true, Bool.not_true, beq_self_eq_true, aName_eq, nm_dat, nm_own, dd_dat, dd_own, bb_bool, arg_dat, arg_own, arg_ali, das_nil, das_dat, cont_list, cont_tup, cont_own, cont_ali, contS_own, ownL_own, ownO_own, stor_dat, stor_own, iD_int, ii_int, i1_int, sAddU_int, sAddU_tup, truS_none, truS_bool, truS_int, truS_list, truS_tup, truS_ali, srcOf_list, srcOf_tup, srcOf_ali, Ab.got_some, gZ_nil, gC_cons, gT_tup, onlyDat_dat, notAli_dat, notAli_own, getO_some, fin_none, fin_some, finO_own, callA_nil, callA_dat, callA_ali, argS_none, argS_some, rt_ad, nx_ad, isN_none, isN_tup, notN_none, notN_tup, aNx, aRet, aIf, aSet, aAug, aDrop, aNever, aC, aBin, aBinR, aUn, aTst, aChain, aNot, aAnd, aOr, aIfE, aAndV, aOrV, aNotV, aNil, aCons, aTup, aLst, aCall1, aCallD, aIx, aApp, aExt, aSetIx, aTru, sLen, sAny, sAll, sSum, sList, sTuple, fI, fC, fB, aSeqI, aRng1, aFor, aFrz, gN, aUnp, aLc, aYes, aCall, aRep, aRgT, turn, wipeA, br_true, br_false, List.map_nil, List.map_cons, List.nil_append, List.cons_append, List.replicate, List.getElem?_cons_zero, List.getElem?_cons_succ, List.set_cons_zero, List.set_cons_succ, List.length_cons, List.length_nil, enS_list, enS_tup, aNotT, aEnum, aRev, aAugD, sLt_int, sLt_ints, sRepT_tup, aCall2, sIsB_eq, sNotB_eq, aDnew, aSortD, ownD_own, aSda, aTupD, datAt_dat, sAllD, aSortSetI, isN_int, notN_int, sIn_int, sNotIn_int, sEq_int, sNe_int, sEq_bool, sNe_bool, sEq_str]
        exact kn
      · have e1 : decide (Str.ofString "not" = Str.ofString "sure") = false := by decide
        have b1 : decide (countF rows key - without q (groupsF rows key) = countF rows key) = false := decide_eq_false (fun z => by
          have := hw0.mp (by omega)
          rw [hs] at this
          cases this)
        have b2 : decide (0 < ((nAll q (groupsF rows key) : Nat) : Int)) = false := decide_eq_false (fun z => by
          have := hall.mp (by omega)
          rw [hs] at this
          cases this)
        simp only [sv, e1, b1, b2, b3, decide_true, Bool.not_true, beq_self_eq_true, aName_eq, nm_dat, nm_own, dd_dat, dd_own, bb_bool, arg_dat, arg_own, arg_ali, das_nil, das_dat, cont_list, cont_tup, cont_own, cont_ali, contS_own, ownL_own, ownO_own, stor_dat, stor_own, iD_int, ii_int, i1_int, sAddU_int, sAddU_tup, truS_none, truS_bool, truS_int, truS_list, truS_tup, truS_ali, srcOf_list, srcOf_tup, srcOf_ali, Ab.got_some, gZ_nil, gC_cons, gT_tup, onlyDat_dat, notAli_dat, notAli_own, getO_some, fin_none, fin_some, finO_own, callA_nil, callA_dat, callA_ali, argS_none, argS_some, rt_ad, nx_ad, isN_none, isN_tup, notN_none, notN_tup, aNx, aRet, aIf, aSet, aAug, aDrop, aNever, aC, aBin, aBinR, aUn, aTst, aChain, aNot, aAnd, aOr, aIfE, aAndV, aOrV, aNotV, aNil, aCons, aTup, aLst, aCall1, aCallD, aIx, aApp, aExt, aSetIx, aTru, sLen, sAny, sAll, sSum, sList, sTuple, fI, fC, fB, aSeqI, aRng1, aFor, aFrz, gN, aUnp, aLc, aYes, aCall, aRep, aRgT, turn, wipeA, br_true, br_false, List.map_nil, List.map_cons, List.nil_append, List.cons_append, List.replicate, List.getElem?_cons_zero, List.getElem?_cons_succ, List.set_cons_zero, List.set_cons_succ, List.length_cons, List.length_nil, enS_list, enS_tup, aNotT, aEnum, aRev, aAugD, sLt_int, sLt_ints, sRepT_tup, aCall2, sIsB_eq, sNotB_eq, aDnew, aSortD, ownD_own, aSda, aTupD, datAt_dat, sAllD, aSortSetI, isN_int, notN_int, sIn_int, sNotIn_int, sEq_int, sNe_int, sEq_bool, sNe_bool, sEq_str]
        exact kn
    have hmw : ∀ (n : Nat) (r : Row), r ∈ mendF (groupsF rows key) (n : Int) → r.length = wd := fun n r hr => by
      obtain ⟨g, h1, h2⟩ := (mendF_ch (n : Int) hne).mem r hr
      exact (hgk g h1).wid r h2
    have hml : ∀ n : Int, (mendF (groupsF rows key) n).length ≤ 40 := fun n => by rw [mendF_len]; exact hgl
    refine cut1 [some (.dat (.list (ns.map PyData.int))), some (.own none (.lst (tape ns t l s))), some (.dat (.int (wd : Int))), some (.dat (eR rows)), some (.dat (tI key)), none, some (.dat (.int (countF rows key))), some (.dat (.tuple ((groupsF rows key).map eR))), some (.dat (.int (countF rows key))), x8, some (.dat (.list [.int 0, .int (countF rows key - 1), .int z])), x11, some (.dat (eQ q)), some (.dat (.int (countF rows key - without q (groupsF rows key)))), some (.dat (.int (countF rows key))), some (.dat (kind)), some (.dat (told)), some (.dat (.int (nAll q (groupsF rows key) : Nat))), some (.dat (.int (nAny q (groupsF rows key) : Nat))), none, none, none, none, none, none, none] (fun Kn kn => ?_) ?_
    · simp only [aName_eq, nm_dat, nm_own, dd_dat, dd_own, bb_bool, arg_dat, arg_own, arg_ali, das_nil, das_dat, cont_list, cont_tup, cont_own, cont_ali, contS_own, ownL_own, ownO_own, stor_dat, stor_own, iD_int, ii_int, i1_int, sAddU_int, sAddU_tup, truS_none, truS_bool, truS_int, truS_list, truS_tup, truS_ali, srcOf_list, srcOf_tup, srcOf_ali, Ab.got_some, gZ_nil, gC_cons, gT_tup, onlyDat_dat, notAli_dat, notAli_own, getO_some, fin_none, fin_some, finO_own, callA_nil, callA_dat, callA_ali, argS_none, argS_some, rt_ad, nx_ad, isN_none, isN_tup, notN_none, notN_tup, aNx, aRet, aIf, aSet, aAug, aDrop, aNever, aC, aBin, aBinR, aUn, aTst, aChain, aNot, aAnd, aOr, aIfE, aAndV, aOrV, aNotV, aNil, aCons, aTup, aLst, aCall1, aCallD, aIx, aApp, aExt, aSetIx, aTru, sLen, sAny, sAll, sSum, sList, sTuple, fI, fC, fB, aSeqI, aRng1, aFor, aFrz, gN, aUnp, aLc, aYes, aCall, aRep, aRgT, turn, wipeA, br_true, br_false, List.map_nil, List.map_cons, List.nil_append, List.cons_append, List.replicate, List.getElem?_cons_zero, List.getElem?_cons_succ, List.set_cons_zero, List.set_cons_succ, List.length_cons, List.length_nil, enS_list, enS_tup, aNotT, aEnum, aRev, aAugD, sLt_int, sLt_ints, sRepT_tup, aCall2, sIsB_eq, sNotB_eq, aDnew, aSortD, ownD_own, aSda, aTupD, datAt_dat, sAllD, aSortSetI, isN_int, notN_int, sIn_int, sNotIn_int, sEq_int, sNe_int, sEq_bool, sNe_bool, sEq_str]
      refine ⟨by omega, by omega, ?_⟩
      rw [rangeD0]
      refine lc_pure (enc := fun (q : Nat) => PyData.int (q : Int)) (fun n => (mendF (groupsF rows key) (n : Nat)).any (fitsF q)) (fun (n : Nat) => PyData.int (n : Int)) trivial (by simp [Ab.freeOf]) (small_len (by rw [List.length_range]; omega)) (fun n hn Ka Ks ka ks => ?_) ?_
      · have hn : (n : Int) < countF rows key := by
          have := List.mem_range.mp hn
          omega
        simp only [aName_eq, nm_dat, nm_own, dd_dat, dd_own, bb_bool, arg_dat, arg_own, arg_ali, das_nil, das_dat, cont_list, cont_tup, cont_own, cont_ali, contS_own, ownL_own, ownO_own, stor_dat, stor_own, iD_int, ii_int, i1_int, sAddU_int, sAddU_tup, truS_none, truS_bool, truS_int, truS_list, truS_tup, truS_ali, srcOf_list, srcOf_tup, srcOf_ali, Ab.got_some, gZ_nil, gC_cons, gT_tup, onlyDat_dat, notAli_dat, notAli_own, getO_some, fin_none, fin_some, finO_own, callA_nil, callA_dat, callA_ali, argS_none, argS_some, rt_ad, nx_ad, isN_none, isN_tup, notN_none, notN_tup, aNx, aRet, aIf, aSet, aAug, aDrop, aNever, aC, aBin, aBinR, aUn, aTst, aChain, aNot, aAnd, aOr, aIfE, aAndV, aOrV, aNotV, aNil, aCons, aTup, aLst, aCall1, aCallD, aIx, aApp, aExt, aSetIx, aTru, sLen, sAny, sAll, sSum, sList, sTuple, fI, fC, fB, aSeqI, aRng1, aFor, aFrz, gN, aUnp, aLc, aYes, aCall, aRep, aRgT, turn, wipeA, br_true, br_false, List.map_nil, List.map_cons, List.nil_append, List.cons_append, List.replicate, List.getElem?_cons_zero, List.getElem?_cons_succ, List.set_cons_zero, List.set_cons_succ, List.length_cons, List.length_nil, enS_list, enS_tup, aNotT, aEnum, aRev, aAugD, sLt_int, sLt_ints, sRepT_tup, aCall2, sIsB_eq, sNotB_eq, aDnew, aSortD, ownD_own, aSda, aTupD, datAt_dat, sAllD, aSortSetI, isN_int, notN_int, sIn_int, sNotIn_int, sEq_int, sNe_int, sEq_bool, sNe_bool, sEq_str]
        refine ⟨wd, rows, key, (n : Int), rfl, rfl, hT, by omega, hn, rfl, ?_⟩
        have hm40 := hml (n : Int)
        simp only [eR, aName_eq, nm_dat, nm_own, dd_dat, dd_own, bb_bool, arg_dat, arg_own, arg_ali, das_nil, das_dat, cont_list, cont_tup, cont_own, cont_ali, contS_own, ownL_own, ownO_own, stor_dat, stor_own, iD_int, ii_int, i1_int, sAddU_int, sAddU_tup, truS_none, truS_bool, truS_int, truS_list, truS_tup, truS_ali, srcOf_list, srcOf_tup, srcOf_ali, Ab.got_some, gZ_nil, gC_cons, gT_tup, onlyDat_dat, notAli_dat, notAli_own, getO_some, fin_none, fin_some, finO_own, callA_nil, callA_dat, callA_ali, argS_none, argS_some, rt_ad, nx_ad, isN_none, isN_tup, notN_none, notN_tup, aNx, aRet, aIf, aSet, aAug, aDrop, aNever, aC, aBin, aBinR, aUn, aTst, aChain, aNot, aAnd, aOr, aIfE, aAndV, aOrV, aNotV, aNil, aCons, aTup, aLst, aCall1, aCallD, aIx, aApp, aExt, aSetIx, aTru, sLen, sAny, sAll, sSum, sList, sTuple, fI, fC, fB, aSeqI, aRng1, aFor, aFrz, gN, aUnp, aLc, aYes, aCall, aRep, aRgT, turn, wipeA, br_true, br_false, List.map_nil, List.map_cons, List.nil_append, List.cons_append, List.replicate, List.getElem?_cons_zero, List.getElem?_cons_succ, List.set_cons_zero, List.set_cons_succ, List.length_cons, List.length_nil, enS_list, enS_tup, aNotT, aEnum, aRev, aAugD, sLt_int, sLt_ints, sRepT_tup, aCall2, sIsB_eq, sNotB_eq, aDnew, aSortD, ownD_own, aSda, aTupD, datAt_dat, sAllD, aSortSetI, isN_int, notN_int, sIn_int, sNotIn_int, sEq_int, sNe_int, sEq_bool, sNe_bool, sEq_str]
        refine lc_pure (enc := tI) (fitsF q) tI trivial (by simp [Ab.freeOf]) (small_len (by omega)) (fun r hr Kb Ks2 kb ks2 => ?_) ?_
        · have hrw := hmw n r hr
          simp only [aName_eq, nm_dat, nm_own, dd_dat, dd_own, bb_bool, arg_dat, arg_own, arg_ali, das_nil, das_dat, cont_list, cont_tup, cont_own, cont_ali, contS_own, ownL_own, ownO_own, stor_dat, stor_own, iD_int, ii_int, i1_int, sAddU_int, sAddU_tup, truS_none, truS_bool, truS_int, truS_list, truS_tup, truS_ali, srcOf_list, srcOf_tup, srcOf_ali, Ab.got_some, gZ_nil, gC_cons, gT_tup, onlyDat_dat, notAli_dat, notAli_own, getO_some, fin_none, fin_some, finO_own, callA_nil, callA_dat, callA_ali, argS_none, argS_some, rt_ad, nx_ad, isN_none, isN_tup, notN_none, notN_tup, aNx, aRet, aIf, aSet, aAug, aDrop, aNever, aC, aBin, aBinR, aUn, aTst, aChain, aNot, aAnd, aOr, aIfE, aAndV, aOrV, aNotV, aNil, aCons, aTup, aLst, aCall1, aCallD, aIx, aApp, aExt, aSetIx, aTru, sLen, sAny, sAll, sSum, sList, sTuple, fI, fC, fB, aSeqI, aRng1, aFor, aFrz, gN, aUnp, aLc, aYes, aCall, aRep, aRgT, turn, wipeA, br_true, br_false, List.map_nil, List.map_cons, List.nil_append, List.cons_append, List.replicate, List.getElem?_cons_zero, List.getElem?_cons_succ, List.set_cons_zero, List.set_cons_succ, List.length_cons, List.length_nil, enS_list, enS_tup, aNotT, aEnum, aRev, aAugD, sLt_int, sLt_ints, sRepT_tup, aCall2, sIsB_eq, sNotB_eq, aDnew, aSortD, ownD_own, aSda, aTupD, datAt_dat, sAllD, aSortSetI, isN_int, notN_int, sIn_int, sNotIn_int, sEq_int, sNe_int, sEq_bool, sNe_bool, sEq_str]
          refine ⟨by omega, by omega, ?_⟩
          rw [rangeD0]
          refine lc_pure (enc := fun (q : Nat) => PyData.int (q : Int)) (offAt q r) (fun (n : Nat) => PyData.int (n : Int)) trivial (by simp [Ab.freeOf]) (small_len (by rw [List.length_range]; omega)) (fun j hj Kc2 Ks3 kc ks3 => ?_) ?_
          · have hj : j < wd := by
              have := List.mem_range.mp hj
              omega
            have q1 : atI (q.map oI) (j : Int) = some (oI (q.getD j none)) := by
              rw [atI_map oI (by omega), getD_mem (by omega)]
            have q2 : atI (r.map PyData.int) (j : Int) = some (.int (r.getD j 0)) := by
              rw [atI_map PyData.int (by omega), getD_mem (by omega)]
            unfold offAt at kc ks3
            cases hx : q.getD j none with
            | none =>
              rw [hx] at q1 kc ks3
              simp only [eQ, q1, oI, aName_eq, nm_dat, nm_own, dd_dat, dd_own, bb_bool, arg_dat, arg_own, arg_ali, das_nil, das_dat, cont_list, cont_tup, cont_own, cont_ali, contS_own, ownL_own, ownO_own, stor_dat, stor_own, iD_int, ii_int, i1_int, sAddU_int, sAddU_tup, truS_none, truS_bool, truS_int, truS_list, truS_tup, truS_ali, srcOf_list, srcOf_tup, srcOf_ali, Ab.got_some, gZ_nil, gC_cons, gT_tup, onlyDat_dat, notAli_dat, notAli_own, getO_some, fin_none, fin_some, finO_own, callA_nil, callA_dat, callA_ali, argS_none, argS_some, rt_ad, nx_ad, isN_none, isN_tup, notN_none, notN_tup, aNx, aRet, aIf, aSet, aAug, aDrop, aNever, aC, aBin, aBinR, aUn, aTst, aChain, aNot, aAnd, aOr, aIfE, aAndV, aOrV, aNotV, aNil, aCons, aTup, aLst, aCall1, aCallD, aIx, aApp, aExt, aSetIx, aTru, sLen, sAny, sAll, sSum, sList, sTuple, fI, fC, fB, aSeqI, aRng1, aFor, aFrz, gN, aUnp, aLc, aYes, aCall, aRep, aRgT, turn, wipeA, br_true, br_false, List.map_nil, List.map_cons, List.nil_append, List.cons_append, List.replicate, List.getElem?_cons_zero, List.getElem?_cons_succ, List.set_cons_zero, List.set_cons_succ, List.length_cons, List.length_nil, enS_list, enS_tup, aNotT, aEnum, aRev, aAugD, sLt_int, sLt_ints, sRepT_tup, aCall2, sIsB_eq, sNotB_eq, aDnew, aSortD, ownD_own, aSda, aTupD, datAt_dat, sAllD, aSortSetI, isN_int, notN_int, sIn_int, sNotIn_int, sEq_int, sNe_int, sEq_bool, sNe_bool, sEq_str]
              exact ks3 rfl
            | some v =>
              rw [hx] at q1 kc ks3
              simp only [eQ, tI, q1, q2, oI, aName_eq, nm_dat, nm_own, dd_dat, dd_own, bb_bool, arg_dat, arg_own, arg_ali, das_nil, das_dat, cont_list, cont_tup, cont_own, cont_ali, contS_own, ownL_own, ownO_own, stor_dat, stor_own, iD_int, ii_int, i1_int, sAddU_int, sAddU_tup, truS_none, truS_bool, truS_int, truS_list, truS_tup, truS_ali, srcOf_list, srcOf_tup, srcOf_ali, Ab.got_some, gZ_nil, gC_cons, gT_tup, onlyDat_dat, notAli_dat, notAli_own, getO_some, fin_none, fin_some, finO_own, callA_nil, callA_dat, callA_ali, argS_none, argS_some, rt_ad, nx_ad, isN_none, isN_tup, notN_none, notN_tup, aNx, aRet, aIf, aSet, aAug, aDrop, aNever, aC, aBin, aBinR, aUn, aTst, aChain, aNot, aAnd, aOr, aIfE, aAndV, aOrV, aNotV, aNil, aCons, aTup, aLst, aCall1, aCallD, aIx, aApp, aExt, aSetIx, aTru, sLen, sAny, sAll, sSum, sList, sTuple, fI, fC, fB, aSeqI, aRng1, aFor, aFrz, gN, aUnp, aLc, aYes, aCall, aRep, aRgT, turn, wipeA, br_true, br_false, List.map_nil, List.map_cons, List.nil_append, List.cons_append, List.replicate, List.getElem?_cons_zero, List.getElem?_cons_succ, List.set_cons_zero, List.set_cons_succ, List.length_cons, List.length_nil, enS_list, enS_tup, aNotT, aEnum, aRev, aAugD, sLt_int, sLt_ints, sRepT_tup, aCall2, sIsB_eq, sNotB_eq, aDnew, aSortD, ownD_own, aSda, aTupD, datAt_dat, sAllD, aSortSetI, isN_int, notN_int, sIn_int, sNotIn_int, sEq_int, sNe_int, sEq_bool, sNe_bool, sEq_str]
              exact ⟨kc, ks3⟩
          · have ef := off_fits (q := q) (r := r) (by omega : q.length = wd)
            simp only [List.length_map, Int.toNat_natCast, ef, aName_eq, nm_dat, nm_own, dd_dat, dd_own, bb_bool, arg_dat, arg_own, arg_ali, das_nil, das_dat, cont_list, cont_tup, cont_own, cont_ali, contS_own, ownL_own, ownO_own, stor_dat, stor_own, iD_int, ii_int, i1_int, sAddU_int, sAddU_tup, truS_none, truS_bool, truS_int, truS_list, truS_tup, truS_ali, srcOf_list, srcOf_tup, srcOf_ali, Ab.got_some, gZ_nil, gC_cons, gT_tup, onlyDat_dat, notAli_dat, notAli_own, getO_some, fin_none, fin_some, finO_own, callA_nil, callA_dat, callA_ali, argS_none, argS_some, rt_ad, nx_ad, isN_none, isN_tup, notN_none, notN_tup, aNx, aRet, aIf, aSet, aAug, aDrop, aNever, aC, aBin, aBinR, aUn, aTst, aChain, aNot, aAnd, aOr, aIfE, aAndV, aOrV, aNotV, aNil, aCons, aTup, aLst, aCall1, aCallD, aIx, aApp, aExt, aSetIx, aTru, sLen, sAny, sAll, sSum, sList, sTuple, fI, fC, fB, aSeqI, aRng1, aFor, aFrz, gN, aUnp, aLc, aYes, aCall, aRep, aRgT, turn, wipeA, br_true, br_false, List.map_nil, List.map_cons, List.nil_append, List.cons_append, List.replicate, List.getElem?_cons_zero, List.getElem?_cons_succ, List.set_cons_zero, List.set_cons_succ, List.length_cons, List.length_nil, enS_list, enS_tup, aNotT, aEnum, aRev, aAugD, sLt_int, sLt_ints, sRepT_tup, aCall2, sIsB_eq, sNotB_eq, aDnew, aSortD, ownD_own, aSda, aTupD, datAt_dat, sAllD, aSortSetI, isN_int, notN_int, sIn_int, sNotIn_int, sEq_int, sNe_int, sEq_bool, sNe_bool, sEq_str]
            exact ⟨kb, ks2⟩
        · simp only [List.length_map, pos_any, aName_eq, nm_dat, nm_own, dd_dat, dd_own, bb_bool, arg_dat, arg_own, arg_ali, das_nil, das_dat, cont_list, cont_tup, cont_own, cont_ali, contS_own, ownL_own, ownO_own, stor_dat, stor_own, iD_int, ii_int, i1_int, sAddU_int, sAddU_tup, truS_none, truS_bool, truS_int, truS_list, truS_tup, truS_ali, srcOf_list, srcOf_tup, srcOf_ali, Ab.got_some, gZ_nil, gC_cons, gT_tup, onlyDat_dat, notAli_dat, notAli_own, getO_some, fin_none, fin_some, finO_own, callA_nil, callA_dat, callA_ali, argS_none, argS_some, rt_ad, nx_ad, isN_none, isN_tup, notN_none, notN_tup, aNx, aRet, aIf, aSet, aAug, aDrop, aNever, aC, aBin, aBinR, aUn, aTst, aChain, aNot, aAnd, aOr, aIfE, aAndV, aOrV, aNotV, aNil, aCons, aTup, aLst, aCall1, aCallD, aIx, aApp, aExt, aSetIx, aTru, sLen, sAny, sAll, sSum, sList, sTuple, fI, fC, fB, aSeqI, aRng1, aFor, aFrz, gN, aUnp, aLc, aYes, aCall, aRep, aRgT, turn, wipeA, br_true, br_false, List.map_nil, List.map_cons, List.nil_append, List.cons_append, List.replicate, List.getElem?_cons_zero, List.getElem?_cons_succ, List.set_cons_zero, List.set_cons_succ, List.length_cons, List.length_nil, enS_list, enS_tup, aNotT, aEnum, aRev, aAugD, sLt_int, sLt_ints, sRepT_tup, aCall2, sIsB_eq, sNotB_eq, aDnew, aSortD, ownD_own, aSda, aTupD, datAt_dat, sAllD, aSortSetI, isN_int, notN_int, sIn_int, sNotIn_int, sEq_int, sNe_int, sEq_bool, sNe_bool, sEq_str]
          exact ⟨ka, ks⟩
      · have hc := hit_count (q := q) hne
        rw [hpc] at hc
        simp only [List.length_map, hc, decide_true, Bool.not_true, aName_eq, nm_dat, nm_own, dd_dat, dd_own, bb_bool, arg_dat, arg_own, arg_ali, das_nil, das_dat, cont_list, cont_tup, cont_own, cont_ali, contS_own, ownL_own, ownO_own, stor_dat, stor_own, iD_int, ii_int, i1_int, sAddU_int, sAddU_tup, truS_none, truS_bool, truS_int, truS_list, truS_tup, truS_ali, srcOf_list, srcOf_tup, srcOf_ali, Ab.got_some, gZ_nil, gC_cons, gT_tup, onlyDat_dat, notAli_dat, notAli_own, getO_some, fin_none, fin_some, finO_own, callA_nil, callA_dat, callA_ali, argS_none, argS_some, rt_ad, nx_ad, isN_none, isN_tup, notN_none, notN_tup, aNx, aRet, aIf, aSet, aAug, aDrop, aNever, aC, aBin, aBinR, aUn, aTst, aChain, aNot, aAnd, aOr, aIfE, aAndV, aOrV, aNotV, aNil, aCons, aTup, aLst, aCall1, aCallD, aIx, aApp, aExt, aSetIx, aTru, sLen, sAny, sAll, sSum, sList, sTuple, fI, fC, fB, aSeqI, aRng1, aFor, aFrz, gN, aUnp, aLc, aYes, aCall, aRep, aRgT, turn, wipeA, br_true, br_false, List.map_nil, List.map_cons, List.nil_append, List.cons_append, List.replicate, List.getElem?_cons_zero, List.getElem?_cons_succ, List.set_cons_zero, List.set_cons_succ, List.length_cons, List.length_nil, enS_list, enS_tup, aNotT, aEnum, aRev, aAugD, sLt_int, sLt_ints, sRepT_tup, aCall2, sIsB_eq, sNotB_eq, aDnew, aSortD, ownD_own, aSda, aTupD, datAt_dat, sAllD, aSortSetI, isN_int, notN_int, sIn_int, sNotIn_int, sEq_int, sNe_int, sEq_bool, sNe_bool, sEq_str]
        exact kn
    refine cut1 [some (.dat (.list (ns.map PyData.int))), some (.own none (.lst (tape ns t l s))), some (.dat (.int (wd : Int))), some (.dat (eR rows)), some (.dat (tI key)), none, some (.dat (.int (countF rows key))), some (.dat (.tuple ((groupsF rows key).map eR))), some (.dat (.int (countF rows key))), x8, some (.dat (.list [.int 0, .int (countF rows key - 1), .int z])), x11, some (.dat (eQ q)), some (.dat (.int (countF rows key - without q (groupsF rows key)))), some (.dat (.int (countF rows key))), some (.dat (kind)), some (.dat (told)), some (.dat (.int (nAll q (groupsF rows key) : Nat))), some (.dat (.int (nAny q (groupsF rows key) : Nat))), none, none, some (.dat (eQ (List.replicate wd none))), none, none, none, none] (fun Kn kn => ?_) ?_
    · simp only [aName_eq, nm_dat, nm_own, dd_dat, dd_own, bb_bool, arg_dat, arg_own, arg_ali, das_nil, das_dat, cont_list, cont_tup, cont_own, cont_ali, contS_own, ownL_own, ownO_own, stor_dat, stor_own, iD_int, ii_int, i1_int, sAddU_int, sAddU_tup, truS_none, truS_bool, truS_int, truS_list, truS_tup, truS_ali, srcOf_list, srcOf_tup, srcOf_ali, Ab.got_some, gZ_nil, gC_cons, gT_tup, onlyDat_dat, notAli_dat, notAli_own, getO_some, fin_none, fin_some, finO_own, callA_nil, callA_dat, callA_ali, argS_none, argS_some, rt_ad, nx_ad, isN_none, isN_tup, notN_none, notN_tup, aNx, aRet, aIf, aSet, aAug, aDrop, aNever, aC, aBin, aBinR, aUn, aTst, aChain, aNot, aAnd, aOr, aIfE, aAndV, aOrV, aNotV, aNil, aCons, aTup, aLst, aCall1, aCallD, aIx, aApp, aExt, aSetIx, aTru, sLen, sAny, sAll, sSum, sList, sTuple, fI, fC, fB, aSeqI, aRng1, aFor, aFrz, gN, aUnp, aLc, aYes, aCall, aRep, aRgT, turn, wipeA, br_true, br_false, List.map_nil, List.map_cons, List.nil_append, List.cons_append, List.replicate, List.getElem?_cons_zero, List.getElem?_cons_succ, List.set_cons_zero, List.set_cons_succ, List.length_cons, List.length_nil, enS_list, enS_tup, aNotT, aEnum, aRev, aAugD, sLt_int, sLt_ints, sRepT_tup, aCall2, sIsB_eq, sNotB_eq, aDnew, aSortD, ownD_own, aSda, aTupD, datAt_dat, sAllD, aSortSetI, isN_int, notN_int, sIn_int, sNotIn_int, sEq_int, sNe_int, sEq_bool, sNe_bool, sEq_str]
      refine ⟨small_le (by decide), by simp, by omega, by omega, by decide, ?_⟩
      have e9 : (List.replicate (wd : Int).toNat [PyData.none]).flatten = (List.replicate wd (none : Option Int)).map oI := by
        rw [List.flatten_replicate_singleton, List.map_replicate, Int.toNat_natCast]
        rfl
      rw [e9]
      exact kn
    have hgne : groupsF rows key ≠ [] := by
      obtain ⟨r, hr⟩ := List.exists_mem_of_ne_nil rows hR.ne
      exact List.ne_nil_of_mem (List.mem_map.mpr ⟨_, gk_mem.mpr ⟨r, hr, rfl⟩, rfl⟩)
    have hn0 := none_without (n := wd) hgne
    obtain ⟨hn1, hn2⟩ := none_counts (n := wd) hne
    refine cut1 [some (.dat (.list (ns.map PyData.int))), some (.own none (.lst (tape ns t l s))), some (.dat (.int (wd : Int))), some (.dat (eR rows)), some (.dat (tI key)), none, some (.dat (.int (countF rows key))), some (.dat (.tuple ((groupsF rows key).map eR))), some (.dat (.int (countF rows key))), x8, some (.dat (.list [.int 0, .int (countF rows key - 1), .int z])), x11, some (.dat (eQ q)), some (.dat (.int (countF rows key - without q (groupsF rows key)))), some (.dat (.int (countF rows key))), some (.dat (kind)), some (.dat (told)), some (.dat (.int (nAll q (groupsF rows key) : Nat))), some (.dat (.int (nAny q (groupsF rows key) : Nat))), none, none, some (.dat (eQ (List.replicate wd none))), none, none, none, none] (fun Kn kn => ?_) ?_
    · simp only [aName_eq, nm_dat, nm_own, dd_dat, dd_own, bb_bool, arg_dat, arg_own, arg_ali, das_nil, das_dat, cont_list, cont_tup, cont_own, cont_ali, contS_own, ownL_own, ownO_own, stor_dat, stor_own, iD_int, ii_int, i1_int, sAddU_int, sAddU_tup, truS_none, truS_bool, truS_int, truS_list, truS_tup, truS_ali, srcOf_list, srcOf_tup, srcOf_ali, Ab.got_some, gZ_nil, gC_cons, gT_tup, onlyDat_dat, notAli_dat, notAli_own, getO_some, fin_none, fin_some, finO_own, callA_nil, callA_dat, callA_ali, argS_none, argS_some, rt_ad, nx_ad, isN_none, isN_tup, notN_none, notN_tup, aNx, aRet, aIf, aSet, aAug, aDrop, aNever, aC, aBin, aBinR, aUn, aTst, aChain, aNot, aAnd, aOr, aIfE, aAndV, aOrV, aNotV, aNil, aCons, aTup, aLst, aCall1, aCallD, aIx, aApp, aExt, aSetIx, aTru, sLen, sAny, sAll, sSum, sList, sTuple, fI, fC, fB, aSeqI, aRng1, aFor, aFrz, gN, aUnp, aLc, aYes, aCall, aRep, aRgT, turn, wipeA, br_true, br_false, List.map_nil, List.map_cons, List.nil_append, List.cons_append, List.replicate, List.getElem?_cons_zero, List.getElem?_cons_succ, List.set_cons_zero, List.set_cons_succ, List.length_cons, List.length_nil, enS_list, enS_tup, aNotT, aEnum, aRev, aAugD, sLt_int, sLt_ints, sRepT_tup, aCall2, sIsB_eq, sNotB_eq, aDnew, aSortD, ownD_own, aSda, aTupD, datAt_dat, sAllD, aSortSetI, isN_int, notN_int, sIn_int, sNotIn_int, sEq_int, sNe_int, sEq_bool, sNe_bool, sEq_str]
      refine ⟨wd, rows, key, List.replicate wd none, rfl, rfl, hT, by simp, rfl, ?_⟩
      rw [hn0]
      simp only [aName_eq, nm_dat, nm_own, dd_dat, dd_own, bb_bool, arg_dat, arg_own, arg_ali, das_nil, das_dat, cont_list, cont_tup, cont_own, cont_ali, contS_own, ownL_own, ownO_own, stor_dat, stor_own, iD_int, ii_int, i1_int, sAddU_int, sAddU_tup, truS_none, truS_bool, truS_int, truS_list, truS_tup, truS_ali, srcOf_list, srcOf_tup, srcOf_ali, Ab.got_some, gZ_nil, gC_cons, gT_tup, onlyDat_dat, notAli_dat, notAli_own, getO_some, fin_none, fin_some, finO_own, callA_nil, callA_dat, callA_ali, argS_none, argS_some, rt_ad, nx_ad, isN_none, isN_tup, notN_none, notN_tup, aNx, aRet, aIf, aSet, aAug, aDrop, aNever, aC, aBin, aBinR, aUn, aTst, aChain, aNot, aAnd, aOr, aIfE, aAndV, aOrV, aNotV, aNil, aCons, aTup, aLst, aCall1, aCallD, aIx, aApp, aExt, aSetIx, aTru, sLen, sAny, sAll, sSum, sList, sTuple, fI, fC, fB, aSeqI, aRng1, aFor, aFrz, gN, aUnp, aLc, aYes, aCall, aRep, aRgT, turn, wipeA, br_true, br_false, List.map_nil, List.map_cons, List.nil_append, List.cons_append, List.replicate, List.getElem?_cons_zero, List.getElem?_cons_succ, List.set_cons_zero, List.set_cons_succ, List.length_cons, List.length_nil, enS_list, enS_tup, aNotT, aEnum, aRev, aAugD, sLt_int, sLt_ints, sRepT_tup, aCall2, sIsB_eq, sNotB_eq, aDnew, aSortD, ownD_own, aSda, aTupD, datAt_dat, sAllD, aSortSetI, isN_int, notN_int, sIn_int, sNotIn_int, sEq_int, sNe_int, sEq_bool, sNe_bool, sEq_str]
      refine ⟨small_le (by decide), sNe_of (x := [countF rows key - 0, countF rows key]) (y := [countF rows key, countF rows key]) (faith_tup faith_int) (n := 1) (fun a => Nat.le_of_eq (depth_tI a)) (by decide) ?_⟩
      simp only [Int.sub_zero, decide_true, Bool.not_true, aName_eq, nm_dat, nm_own, dd_dat, dd_own, bb_bool, arg_dat, arg_own, arg_ali, das_nil, das_dat, cont_list, cont_tup, cont_own, cont_ali, contS_own, ownL_own, ownO_own, stor_dat, stor_own, iD_int, ii_int, i1_int, sAddU_int, sAddU_tup, truS_none, truS_bool, truS_int, truS_list, truS_tup, truS_ali, srcOf_list, srcOf_tup, srcOf_ali, Ab.got_some, gZ_nil, gC_cons, gT_tup, onlyDat_dat, notAli_dat, notAli_own, getO_some, fin_none, fin_some, finO_own, callA_nil, callA_dat, callA_ali, argS_none, argS_some, rt_ad, nx_ad, isN_none, isN_tup, notN_none, notN_tup, aNx, aRet, aIf, aSet, aAug, aDrop, aNever, aC, aBin, aBinR, aUn, aTst, aChain, aNot, aAnd, aOr, aIfE, aAndV, aOrV, aNotV, aNil, aCons, aTup, aLst, aCall1, aCallD, aIx, aApp, aExt, aSetIx, aTru, sLen, sAny, sAll, sSum, sList, sTuple, fI, fC, fB, aSeqI, aRng1, aFor, aFrz, gN, aUnp, aLc, aYes, aCall, aRep, aRgT, turn, wipeA, br_true, br_false, List.map_nil, List.map_cons, List.nil_append, List.cons_append, List.replicate, List.getElem?_cons_zero, List.getElem?_cons_succ, List.set_cons_zero, List.set_cons_succ, List.length_cons, List.length_nil, enS_list, enS_tup, aNotT, aEnum, aRev, aAugD, sLt_int, sLt_ints, sRepT_tup, aCall2, sIsB_eq, sNotB_eq, aDnew, aSortD, ownD_own, aSda, aTupD, datAt_dat, sAllD, aSortSetI, isN_int, notN_int, sIn_int, sNotIn_int, sEq_int, sNe_int, sEq_bool, sNe_bool, sEq_str]
      refine ⟨wd, rows, key, List.replicate wd none, rfl, rfl, hT, by simp, rfl, ?_⟩
      rw [hn1, hn2]
      simp only [List.length_map, aName_eq, nm_dat, nm_own, dd_dat, dd_own, bb_bool, arg_dat, arg_own, arg_ali, das_nil, das_dat, cont_list, cont_tup, cont_own, cont_ali, contS_own, ownL_own, ownO_own, stor_dat, stor_own, iD_int, ii_int, i1_int, sAddU_int, sAddU_tup, truS_none, truS_bool, truS_int, truS_list, truS_tup, truS_ali, srcOf_list, srcOf_tup, srcOf_ali, Ab.got_some, gZ_nil, gC_cons, gT_tup, onlyDat_dat, notAli_dat, notAli_own, getO_some, fin_none, fin_some, finO_own, callA_nil, callA_dat, callA_ali, argS_none, argS_some, rt_ad, nx_ad, isN_none, isN_tup, notN_none, notN_tup, aNx, aRet, aIf, aSet, aAug, aDrop, aNever, aC, aBin, aBinR, aUn, aTst, aChain, aNot, aAnd, aOr, aIfE, aAndV, aOrV, aNotV, aNil, aCons, aTup, aLst, aCall1, aCallD, aIx, aApp, aExt, aSetIx, aTru, sLen, sAny, sAll, sSum, sList, sTuple, fI, fC, fB, aSeqI, aRng1, aFor, aFrz, gN, aUnp, aLc, aYes, aCall, aRep, aRgT, turn, wipeA, br_true, br_false, List.map_nil, List.map_cons, List.nil_append, List.cons_append, List.replicate, List.getElem?_cons_zero, List.getElem?_cons_succ, List.set_cons_zero, List.set_cons_succ, List.length_cons, List.length_nil, enS_list, enS_tup, aNotT, aEnum, aRev, aAugD, sLt_int, sLt_ints, sRepT_tup, aCall2, sIsB_eq, sNotB_eq, aDnew, aSortD, ownD_own, aSda, aTupD, datAt_dat, sAllD, aSortSetI, isN_int, notN_int, sIn_int, sNotIn_int, sEq_int, sNe_int, sEq_bool, sNe_bool, sEq_str]
      refine ⟨small_le (by decide), sNe_of (x := [((groupsF rows key).length : Int), ((groupsF rows key).length : Int)]) (y := [((groupsF rows key).length : Int), ((groupsF rows key).length : Int)]) (faith_tup faith_int) (n := 1) (fun a => Nat.le_of_eq (depth_tI a)) (by decide) ?_⟩
      simp only [decide_true, Bool.not_true, aName_eq, nm_dat, nm_own, dd_dat, dd_own, bb_bool, arg_dat, arg_own, arg_ali, das_nil, das_dat, cont_list, cont_tup, cont_own, cont_ali, contS_own, ownL_own, ownO_own, stor_dat, stor_own, iD_int, ii_int, i1_int, sAddU_int, sAddU_tup, truS_none, truS_bool, truS_int, truS_list, truS_tup, truS_ali, srcOf_list, srcOf_tup, srcOf_ali, Ab.got_some, gZ_nil, gC_cons, gT_tup, onlyDat_dat, notAli_dat, notAli_own, getO_some, fin_none, fin_some, finO_own, callA_nil, callA_dat, callA_ali, argS_none, argS_some, rt_ad, nx_ad, isN_none, isN_tup, notN_none, notN_tup, aNx, aRet, aIf, aSet, aAug, aDrop, aNever, aC, aBin, aBinR, aUn, aTst, aChain, aNot, aAnd, aOr, aIfE, aAndV, aOrV, aNotV, aNil, aCons, aTup, aLst, aCall1, aCallD, aIx, aApp, aExt, aSetIx, aTru, sLen, sAny, sAll, sSum, sList, sTuple, fI, fC, fB, aSeqI, aRng1, aFor, aFrz, gN, aUnp, aLc, aYes, aCall, aRep, aRgT, turn, wipeA, br_true, br_false, List.map_nil, List.map_cons, List.nil_append, List.cons_append, List.replicate, List.getElem?_cons_zero, List.getElem?_cons_succ, List.set_cons_zero, List.set_cons_succ, List.length_cons, List.length_nil, enS_list, enS_tup, aNotT, aEnum, aRev, aAugD, sLt_int, sLt_ints, sRepT_tup, aCall2, sIsB_eq, sNotB_eq, aDnew, aSortD, ownD_own, aSda, aTupD, datAt_dat, sAllD, aSortSetI, isN_int, notN_int, sIn_int, sNotIn_int, sEq_int, sNe_int, sEq_bool, sNe_bool, sEq_str]
      exact kn
    refine cut (fun ρ => ∃ (c t l s : Int), 0 ≤ c ∧ c < (wd : Int) ∧ OkTape ns t l s ∧ ρ = [some (.dat (.list (ns.map PyData.int))), some (.own none (.lst (tape ns t l s))), some (.dat (.int (wd : Int))), some (.dat (eR rows)), some (.dat (tI key)), none, some (.dat (.int (countF rows key))), some (.dat (.tuple ((groupsF rows key).map eR))), some (.dat (.int (countF rows key))), x8, some (.dat (.list [.int 0, .int (countF rows key - 1), .int z])), x11, some (.dat (eQ q)), some (.dat (.int (countF rows key - without q (groupsF rows key)))), some (.dat (.int (countF rows key))), some (.dat (kind)), some (.dat (told)), some (.dat (.int (nAll q (groupsF rows key) : Nat))), some (.dat (.int (nAny q (groupsF rows key) : Nat))), none, none, some (.dat (eQ (List.replicate wd none))), some (.dat (.int c)), none, none, none]) (fun Kn kn => ?_) ?_
    · simp only [aName_eq, nm_dat, nm_own, dd_dat, dd_own, bb_bool, arg_dat, arg_own, arg_ali, das_nil, das_dat, cont_list, cont_tup, cont_own, cont_ali, contS_own, ownL_own, ownO_own, stor_dat, stor_own, iD_int, ii_int, i1_int, sAddU_int, sAddU_tup, truS_none, truS_bool, truS_int, truS_list, truS_tup, truS_ali, srcOf_list, srcOf_tup, srcOf_ali, Ab.got_some, gZ_nil, gC_cons, gT_tup, onlyDat_dat, notAli_dat, notAli_own, getO_some, fin_none, fin_some, finO_own, callA_nil, callA_dat, callA_ali, argS_none, argS_some, rt_ad, nx_ad, isN_none, isN_tup, notN_none, notN_tup, aNx, aRet, aIf, aSet, aAug, aDrop, aNever, aC, aBin, aBinR, aUn, aTst, aChain, aNot, aAnd, aOr, aIfE, aAndV, aOrV, aNotV, aNil, aCons, aTup, aLst, aCall1, aCallD, aIx, aApp, aExt, aSetIx, aTru, sLen, sAny, sAll, sSum, sList, sTuple, fI, fC, fB, aSeqI, aRng1, aFor, aFrz, gN, aUnp, aLc, aYes, aCall, aRep, aRgT, turn, wipeA, br_true, br_false, List.map_nil, List.map_cons, List.nil_append, List.cons_append, List.replicate, List.getElem?_cons_zero, List.getElem?_cons_succ, List.set_cons_zero, List.set_cons_succ, List.length_cons, List.length_nil, enS_list, enS_tup, aNotT, aEnum, aRev, aAugD, sLt_int, sLt_ints, sRepT_tup, aCall2, sIsB_eq, sNotB_eq, aDnew, aSortD, ownD_own, aSda, aTupD, datAt_dat, sAllD, aSortSetI, isN_int, notN_int, sIn_int, sNotIn_int, sEq_int, sNe_int, sEq_bool, sNe_bool, sEq_str]
      refine ⟨ns, t, l, s, wd, rfl, rfl, hTp, by omega, by omega, fun r t' l' s' r0 r1 hT' => ?_⟩
      simp only [aName_eq, nm_dat, nm_own, dd_dat, dd_own, bb_bool, arg_dat, arg_own, arg_ali, das_nil, das_dat, cont_list, cont_tup, cont_own, cont_ali, contS_own, ownL_own, ownO_own, stor_dat, stor_own, iD_int, ii_int, i1_int, sAddU_int, sAddU_tup, truS_none, truS_bool, truS_int, truS_list, truS_tup, truS_ali, srcOf_list, srcOf_tup, srcOf_ali, Ab.got_some, gZ_nil, gC_cons, gT_tup, onlyDat_dat, notAli_dat, notAli_own, getO_some, fin_none, fin_some, finO_own, callA_nil, callA_dat, callA_ali, argS_none, argS_some, rt_ad, nx_ad, isN_none, isN_tup, notN_none, notN_tup, aNx, aRet, aIf, aSet, aAug, aDrop, aNever, aC, aBin, aBinR, aUn, aTst, aChain, aNot, aAnd, aOr, aIfE, aAndV, aOrV, aNotV, aNil, aCons, aTup, aLst, aCall1, aCallD, aIx, aApp, aExt, aSetIx, aTru, sLen, sAny, sAll, sSum, sList, sTuple, fI, fC, fB, aSeqI, aRng1, aFor, aFrz, gN, aUnp, aLc, aYes, aCall, aRep, aRgT, turn, wipeA, br_true, br_false, List.map_nil, List.map_cons, List.nil_append, List.cons_append, List.replicate, List.getElem?_cons_zero, List.getElem?_cons_succ, List.set_cons_zero, List.set_cons_succ, List.length_cons, List.length_nil, enS_list, enS_tup, aNotT, aEnum, aRev, aAugD, sLt_int, sLt_ints, sRepT_tup, aCall2, sIsB_eq, sNotB_eq, aDnew, aSortD, ownD_own, aSda, aTupD, datAt_dat, sAllD, aSortSetI, isN_int, notN_int, sIn_int, sNotIn_int, sEq_int, sNe_int, sEq_bool, sNe_bool, sEq_str]
      exact kn _ ⟨r, t', l', s', r0, r1, hT', rfl⟩
    rintro ρ ⟨c, t, l, s, c0, c1, hTp, rfl⟩
    refine cut1 [some (.dat (.list (ns.map PyData.int))), some (.own none (.lst (tape ns t l s))), some (.dat (.int (wd : Int))), some (.dat (eR rows)), some (.dat (tI key)), none, some (.dat (.int (countF rows key))), some (.dat (.tuple ((groupsF rows key).map eR))), some (.dat (.int (countF rows key))), x8, some (.dat (.list [.int 0, .int (countF rows key - 1), .int z])), x11, some (.dat (eQ q)), some (.dat (.int (countF rows key - without q (groupsF rows key)))), some (.dat (.int (countF rows key))), some (.dat (kind)), some (.dat (told)), some (.dat (.int (nAll q (groupsF rows key) : Nat))), some (.dat (.int (nAny q (groupsF rows key) : Nat))), none, none, some (.dat (eQ (List.replicate wd none))), some (.dat (.int c)), some (.dat (.int ((groupsF rows key).map (minC c)).sum)), some (.dat (.int ((groupsF rows key).map (maxC c)).sum)), none] (fun Kn kn => ?_) ?_
    · simp only [aName_eq, nm_dat, nm_own, dd_dat, dd_own, bb_bool, arg_dat, arg_own, arg_ali, das_nil, das_dat, cont_list, cont_tup, cont_own, cont_ali, contS_own, ownL_own, ownO_own, stor_dat, stor_own, iD_int, ii_int, i1_int, sAddU_int, sAddU_tup, truS_none, truS_bool, truS_int, truS_list, truS_tup, truS_ali, srcOf_list, srcOf_tup, srcOf_ali, Ab.got_some, gZ_nil, gC_cons, gT_tup, onlyDat_dat, notAli_dat, notAli_own, getO_some, fin_none, fin_some, finO_own, callA_nil, callA_dat, callA_ali, argS_none, argS_some, rt_ad, nx_ad, isN_none, isN_tup, notN_none, notN_tup, aNx, aRet, aIf, aSet, aAug, aDrop, aNever, aC, aBin, aBinR, aUn, aTst, aChain, aNot, aAnd, aOr, aIfE, aAndV, aOrV, aNotV, aNil, aCons, aTup, aLst, aCall1, aCallD, aIx, aApp, aExt, aSetIx, aTru, sLen, sAny, sAll, sSum, sList, sTuple, fI, fC, fB, aSeqI, aRng1, aFor, aFrz, gN, aUnp, aLc, aYes, aCall, aRep, aRgT, turn, wipeA, br_true, br_false, List.map_nil, List.map_cons, List.nil_append, List.cons_append, List.replicate, List.getElem?_cons_zero, List.getElem?_cons_succ, List.set_cons_zero, List.set_cons_succ, List.length_cons, List.length_nil, enS_list, enS_tup, aNotT, aEnum, aRev, aAugD, sLt_int, sLt_ints, sRepT_tup, aCall2, sIsB_eq, sNotB_eq, aDnew, aSortD, ownD_own, aSda, aTupD, datAt_dat, sAllD, aSortSetI, isN_int, notN_int, sIn_int, sNotIn_int, sEq_int, sNe_int, sEq_bool, sNe_bool, sEq_str]
      refine ⟨wd, rows, key, c, rfl, rfl, hT, c0, c1, rfl, ?_⟩
      simp only [aName_eq, nm_dat, nm_own, dd_dat, dd_own, bb_bool, arg_dat, arg_own, arg_ali, das_nil, das_dat, cont_list, cont_tup, cont_own, cont_ali, contS_own, ownL_own, ownO_own, stor_dat, stor_own, iD_int, ii_int, i1_int, sAddU_int, sAddU_tup, truS_none, truS_bool, truS_int, truS_list, truS_tup, truS_ali, srcOf_list, srcOf_tup, srcOf_ali, Ab.got_some, gZ_nil, gC_cons, gT_tup, onlyDat_dat, notAli_dat, notAli_own, getO_some, fin_none, fin_some, finO_own, callA_nil, callA_dat, callA_ali, argS_none, argS_some, rt_ad, nx_ad, isN_none, isN_tup, notN_none, notN_tup, aNx, aRet, aIf, aSet, aAug, aDrop, aNever, aC, aBin, aBinR, aUn, aTst, aChain, aNot, aAnd, aOr, aIfE, aAndV, aOrV, aNotV, aNil, aCons, aTup, aLst, aCall1, aCallD, aIx, aApp, aExt, aSetIx, aTru, sLen, sAny, sAll, sSum, sList, sTuple, fI, fC, fB, aSeqI, aRng1, aFor, aFrz, gN, aUnp, aLc, aYes, aCall, aRep, aRgT, turn, wipeA, br_true, br_false, List.map_nil, List.map_cons, List.nil_append, List.cons_append, List.replicate, List.getElem?_cons_zero, List.getElem?_cons_succ, List.set_cons_zero, List.set_cons_succ, List.length_cons, List.length_nil, enS_list, enS_tup, aNotT, aEnum, aRev, aAugD, sLt_int, sLt_ints, sRepT_tup, aCall2, sIsB_eq, sNotB_eq, aDnew, aSortD, ownD_own, aSda, aTupD, datAt_dat, sAllD, aSortSetI, isN_int, notN_int, sIn_int, sNotIn_int, sEq_int, sNe_int, sEq_bool, sNe_bool, sEq_str]
      exact ⟨trivial, kn⟩
    refine cut1 [some (.dat (.list (ns.map PyData.int))), some (.own none (.lst (tape ns t l s))), some (.dat (.int (wd : Int))), some (.dat (eR rows)), some (.dat (tI key)), none, some (.dat (.int (countF rows key))), some (.dat (.tuple ((groupsF rows key).map eR))), some (.dat (.int (countF rows key))), x8, some (.dat (.list [.int 0, .int (countF rows key - 1), .int z])), x11, some (.dat (eQ q)), some (.dat (.int (countF rows key - without q (groupsF rows key)))), some (.dat (.int (countF rows key))), some (.dat (kind)), some (.dat (told)), some (.dat (.int (nAll q (groupsF rows key) : Nat))), some (.dat (.int (nAny q (groupsF rows key) : Nat))), none, none, some (.dat (eQ (List.replicate wd none))), some (.dat (.int c)), some (.dat (.int ((groupsF rows key).map (minC c)).sum)), some (.dat (.int ((groupsF rows key).map (maxC c)).sum)), some (.own none (.lst ((totals (groupsF rows key) c).map PyData.int)))] (fun Kn kn => ?_) ?_
    · simp only [aName_eq, nm_dat, nm_own, dd_dat, dd_own, bb_bool, arg_dat, arg_own, arg_ali, das_nil, das_dat, cont_list, cont_tup, cont_own, cont_ali, contS_own, ownL_own, ownO_own, stor_dat, stor_own, iD_int, ii_int, i1_int, sAddU_int, sAddU_tup, truS_none, truS_bool, truS_int, truS_list, truS_tup, truS_ali, srcOf_list, srcOf_tup, srcOf_ali, Ab.got_some, gZ_nil, gC_cons, gT_tup, onlyDat_dat, notAli_dat, notAli_own, getO_some, fin_none, fin_some, finO_own, callA_nil, callA_dat, callA_ali, argS_none, argS_some, rt_ad, nx_ad, isN_none, isN_tup, notN_none, notN_tup, aNx, aRet, aIf, aSet, aAug, aDrop, aNever, aC, aBin, aBinR, aUn, aTst, aChain, aNot, aAnd, aOr, aIfE, aAndV, aOrV, aNotV, aNil, aCons, aTup, aLst, aCall1, aCallD, aIx, aApp, aExt, aSetIx, aTru, sLen, sAny, sAll, sSum, sList, sTuple, fI, fC, fB, aSeqI, aRng1, aFor, aFrz, gN, aUnp, aLc, aYes, aCall, aRep, aRgT, turn, wipeA, br_true, br_false, List.map_nil, List.map_cons, List.nil_append, List.cons_append, List.replicate, List.getElem?_cons_zero, List.getElem?_cons_succ, List.set_cons_zero, List.set_cons_succ, List.length_cons, List.length_nil, enS_list, enS_tup, aNotT, aEnum, aRev, aAugD, sLt_int, sLt_ints, sRepT_tup, aCall2, sIsB_eq, sNotB_eq, aDnew, aSortD, ownD_own, aSda, aTupD, datAt_dat, sAllD, aSortSetI, isN_int, notN_int, sIn_int, sNotIn_int, sEq_int, sNe_int, sEq_bool, sNe_bool, sEq_str]
      refine ⟨by omega, by omega, ?_⟩
      rw [rangeD0]
      refine lc_map (enc := fun (q : Nat) => PyData.int (q : Int)) (fun (n : Nat) => .int (((mendF (groupsF rows key) (n : Nat)).map (col c)).sum)) trivial (by simp [Ab.freeOf]) (small_len (by rw [List.length_range]; omega)) (fun n hn Ka Ks ka => ?_) ?_
      · have hn : (n : Int) < countF rows key := by
          have := List.mem_range.mp hn
          omega
        simp only [aName_eq, nm_dat, nm_own, dd_dat, dd_own, bb_bool, arg_dat, arg_own, arg_ali, das_nil, das_dat, cont_list, cont_tup, cont_own, cont_ali, contS_own, ownL_own, ownO_own, stor_dat, stor_own, iD_int, ii_int, i1_int, sAddU_int, sAddU_tup, truS_none, truS_bool, truS_int, truS_list, truS_tup, truS_ali, srcOf_list, srcOf_tup, srcOf_ali, Ab.got_some, gZ_nil, gC_cons, gT_tup, onlyDat_dat, notAli_dat, notAli_own, getO_some, fin_none, fin_some, finO_own, callA_nil, callA_dat, callA_ali, argS_none, argS_some, rt_ad, nx_ad, isN_none, isN_tup, notN_none, notN_tup, aNx, aRet, aIf, aSet, aAug, aDrop, aNever, aC, aBin, aBinR, aUn, aTst, aChain, aNot, aAnd, aOr, aIfE, aAndV, aOrV, aNotV, aNil, aCons, aTup, aLst, aCall1, aCallD, aIx, aApp, aExt, aSetIx, aTru, sLen, sAny, sAll, sSum, sList, sTuple, fI, fC, fB, aSeqI, aRng1, aFor, aFrz, gN, aUnp, aLc, aYes, aCall, aRep, aRgT, turn, wipeA, br_true, br_false, List.map_nil, List.map_cons, List.nil_append, List.cons_append, List.replicate, List.getElem?_cons_zero, List.getElem?_cons_succ, List.set_cons_zero, List.set_cons_succ, List.length_cons, List.length_nil, enS_list, enS_tup, aNotT, aEnum, aRev, aAugD, sLt_int, sLt_ints, sRepT_tup, aCall2, sIsB_eq, sNotB_eq, aDnew, aSortD, ownD_own, aSda, aTupD, datAt_dat, sAllD, aSortSetI, isN_int, notN_int, sIn_int, sNotIn_int, sEq_int, sNe_int, sEq_bool, sNe_bool, sEq_str]
        refine ⟨wd, rows, key, (n : Int), rfl, rfl, hT, by omega, hn, rfl, ?_⟩
        have hm40 := hml (n : Int)
        simp only [eR, aName_eq, nm_dat, nm_own, dd_dat, dd_own, bb_bool, arg_dat, arg_own, arg_ali, das_nil, das_dat, cont_list, cont_tup, cont_own, cont_ali, contS_own, ownL_own, ownO_own, stor_dat, stor_own, iD_int, ii_int, i1_int, sAddU_int, sAddU_tup, truS_none, truS_bool, truS_int, truS_list, truS_tup, truS_ali, srcOf_list, srcOf_tup, srcOf_ali, Ab.got_some, gZ_nil, gC_cons, gT_tup, onlyDat_dat, notAli_dat, notAli_own, getO_some, fin_none, fin_some, finO_own, callA_nil, callA_dat, callA_ali, argS_none, argS_some, rt_ad, nx_ad, isN_none, isN_tup, notN_none, notN_tup, aNx, aRet, aIf, aSet, aAug, aDrop, aNever, aC, aBin, aBinR, aUn, aTst, aChain, aNot, aAnd, aOr, aIfE, aAndV, aOrV, aNotV, aNil, aCons, aTup, aLst, aCall1, aCallD, aIx, aApp, aExt, aSetIx, aTru, sLen, sAny, sAll, sSum, sList, sTuple, fI, fC, fB, aSeqI, aRng1, aFor, aFrz, gN, aUnp, aLc, aYes, aCall, aRep, aRgT, turn, wipeA, br_true, br_false, List.map_nil, List.map_cons, List.nil_append, List.cons_append, List.replicate, List.getElem?_cons_zero, List.getElem?_cons_succ, List.set_cons_zero, List.set_cons_succ, List.length_cons, List.length_nil, enS_list, enS_tup, aNotT, aEnum, aRev, aAugD, sLt_int, sLt_ints, sRepT_tup, aCall2, sIsB_eq, sNotB_eq, aDnew, aSortD, ownD_own, aSda, aTupD, datAt_dat, sAllD, aSortSetI, isN_int, notN_int, sIn_int, sNotIn_int, sEq_int, sNe_int, sEq_bool, sNe_bool, sEq_str]
        refine lc_map (enc := tI) (fun r => .int (col c r)) trivial (by simp [Ab.freeOf]) (small_len (by omega)) (fun r hr Kb Ks2 kb => ?_) ?_
        · have q1 : atI (r.map PyData.int) c = some (.int (col c r)) := atI_nn c0 (by rw [hmw n r hr]; exact c1)
          simp only [tI, q1, aName_eq, nm_dat, nm_own, dd_dat, dd_own, bb_bool, arg_dat, arg_own, arg_ali, das_nil, das_dat, cont_list, cont_tup, cont_own, cont_ali, contS_own, ownL_own, ownO_own, stor_dat, stor_own, iD_int, ii_int, i1_int, sAddU_int, sAddU_tup, truS_none, truS_bool, truS_int, truS_list, truS_tup, truS_ali, srcOf_list, srcOf_tup, srcOf_ali, Ab.got_some, gZ_nil, gC_cons, gT_tup, onlyDat_dat, notAli_dat, notAli_own, getO_some, fin_none, fin_some, finO_own, callA_nil, callA_dat, callA_ali, argS_none, argS_some, rt_ad, nx_ad, isN_none, isN_tup, notN_none, notN_tup, aNx, aRet, aIf, aSet, aAug, aDrop, aNever, aC, aBin, aBinR, aUn, aTst, aChain, aNot, aAnd, aOr, aIfE, aAndV, aOrV, aNotV, aNil, aCons, aTup, aLst, aCall1, aCallD, aIx, aApp, aExt, aSetIx, aTru, sLen, sAny, sAll, sSum, sList, sTuple, fI, fC, fB, aSeqI, aRng1, aFor, aFrz, gN, aUnp, aLc, aYes, aCall, aRep, aRgT, turn, wipeA, br_true, br_false, List.map_nil, List.map_cons, List.nil_append, List.cons_append, List.replicate, List.getElem?_cons_zero, List.getElem?_cons_succ, List.set_cons_zero, List.set_cons_succ, List.length_cons, List.length_nil, enS_list, enS_tup, aNotT, aEnum, aRev, aAugD, sLt_int, sLt_ints, sRepT_tup, aCall2, sIsB_eq, sNotB_eq, aDnew, aSortD, ownD_own, aSda, aTupD, datAt_dat, sAllD, aSortSetI, isN_int, notN_int, sIn_int, sNotIn_int, sEq_int, sNe_int, sEq_bool, sNe_bool, sEq_str]
          exact kb
        · rw [show ((mendF (groupsF rows key) (n : Int)).map fun r => PyData.int (col c r)) = ((mendF (groupsF rows key) (n : Int)).map (col c)).map PyData.int by rw [List.map_map]; rfl]
          simp only [intsD_ints, aName_eq, nm_dat, nm_own, dd_dat, dd_own, bb_bool, arg_dat, arg_own, arg_ali, das_nil, das_dat, cont_list, cont_tup, cont_own, cont_ali, contS_own, ownL_own, ownO_own, stor_dat, stor_own, iD_int, ii_int, i1_int, sAddU_int, sAddU_tup, truS_none, truS_bool, truS_int, truS_list, truS_tup, truS_ali, srcOf_list, srcOf_tup, srcOf_ali, Ab.got_some, gZ_nil, gC_cons, gT_tup, onlyDat_dat, notAli_dat, notAli_own, getO_some, fin_none, fin_some, finO_own, callA_nil, callA_dat, callA_ali, argS_none, argS_some, rt_ad, nx_ad, isN_none, isN_tup, notN_none, notN_tup, aNx, aRet, aIf, aSet, aAug, aDrop, aNever, aC, aBin, aBinR, aUn, aTst, aChain, aNot, aAnd, aOr, aIfE, aAndV, aOrV, aNotV, aNil, aCons, aTup, aLst, aCall1, aCallD, aIx, aApp, aExt, aSetIx, aTru, sLen, sAny, sAll, sSum, sList, sTuple, fI, fC, fB, aSeqI, aRng1, aFor, aFrz, gN, aUnp, aLc, aYes, aCall, aRep, aRgT, turn, wipeA, br_true, br_false, List.map_nil, List.map_cons, List.nil_append, List.cons_append, List.replicate, List.getElem?_cons_zero, List.getElem?_cons_succ, List.set_cons_zero, List.set_cons_succ, List.length_cons, List.length_nil, enS_list, enS_tup, aNotT, aEnum, aRev, aAugD, sLt_int, sLt_ints, sRepT_tup, aCall2, sIsB_eq, sNotB_eq, aDnew, aSortD, ownD_own, aSda, aTupD, datAt_dat, sAllD, aSortSetI, isN_int, notN_int, sIn_int, sNotIn_int, sEq_int, sNe_int, sEq_bool, sNe_bool, sEq_str]
          exact ka
      · rw [show ((List.range (countF rows key).toNat).map fun (n : Nat) => PyData.int (((mendF (groupsF rows key) (n : Nat)).map (col c)).sum)) = (totals (groupsF rows key) c).map PyData.int by unfold totals; rw [List.map_map]; rfl]
        simp only [aName_eq, nm_dat, nm_own, dd_dat, dd_own, bb_bool, arg_dat, arg_own, arg_ali, das_nil, das_dat, cont_list, cont_tup, cont_own, cont_ali, contS_own, ownL_own, ownO_own, stor_dat, stor_own, iD_int, ii_int, i1_int, sAddU_int, sAddU_tup, truS_none, truS_bool, truS_int, truS_list, truS_tup, truS_ali, srcOf_list, srcOf_tup, srcOf_ali, Ab.got_some, gZ_nil, gC_cons, gT_tup, onlyDat_dat, notAli_dat, notAli_own, getO_some, fin_none, fin_some, finO_own, callA_nil, callA_dat, callA_ali, argS_none, argS_some, rt_ad, nx_ad, isN_none, isN_tup, notN_none, notN_tup, aNx, aRet, aIf, aSet, aAug, aDrop, aNever, aC, aBin, aBinR, aUn, aTst, aChain, aNot, aAnd, aOr, aIfE, aAndV, aOrV, aNotV, aNil, aCons, aTup, aLst, aCall1, aCallD, aIx, aApp, aExt, aSetIx, aTru, sLen, sAny, sAll, sSum, sList, sTuple, fI, fC, fB, aSeqI, aRng1, aFor, aFrz, gN, aUnp, aLc, aYes, aCall, aRep, aRgT, turn, wipeA, br_true, br_false, List.map_nil, List.map_cons, List.nil_append, List.cons_append, List.replicate, List.getElem?_cons_zero, List.getElem?_cons_succ, List.set_cons_zero, List.set_cons_succ, List.length_cons, List.length_nil, enS_list, enS_tup, aNotT, aEnum, aRev, aAugD, sLt_int, sLt_ints, sRepT_tup, aCall2, sIsB_eq, sNotB_eq, aDnew, aSortD, ownD_own, aSda, aTupD, datAt_dat, sAllD, aSortSetI, isN_int, notN_int, sIn_int, sNotIn_int, sEq_int, sNe_int, sEq_bool, sNe_bool, sEq_str]
        exact kn
    obtain ⟨f1, f2, f3⟩ := totals_facts (c := c) hne
    refine cut1 [some (.dat (.list (ns.map PyData.int))), some (.own none (.lst (tape ns t l s))), some (.dat (.int (wd : Int))), some (.dat (eR rows)), some (.dat (tI key)), none, some (.dat (.int (countF rows key))), some (.dat (.tuple ((groupsF rows key).map eR))), some (.dat (.int (countF rows key))), x8, some (.dat (.list [.int 0, .int (countF rows key - 1), .int z])), x11, some (.dat (eQ q)), some (.dat (.int (countF rows key - without q (groupsF rows key)))), some (.dat (.int (countF rows key))), some (.dat (kind)), some (.dat (told)), some (.dat (.int (nAll q (groupsF rows key) : Nat))), some (.dat (.int (nAny q (groupsF rows key) : Nat))), none, none, some (.dat (eQ (List.replicate wd none))), some (.dat (.int c)), some (.dat (.int ((groupsF rows key).map (minC c)).sum)), some (.dat (.int ((groupsF rows key).map (maxC c)).sum)), some (.own none (.lst ((totals (groupsF rows key) c).map PyData.int)))] (fun Kn kn => ?_) ?_
    · obtain ⟨x, xs, e⟩ : ∃ x xs, totals (groupsF rows key) c = x :: xs := by
        cases h : totals (groupsF rows key) c with
        | nil => rw [h] at f1; cases f1
        | cons x xs => exact ⟨x, xs, rfl⟩
      rw [e] at f1 f2 f3 kn
      have m1 := fold_min_is f1 fun y hy => (f3 y hy).1
      have m2 := fold_max_is f2 fun y hy => (f3 y hy).2
      simp only [e, aName_eq, nm_dat, nm_own, dd_dat, dd_own, bb_bool, arg_dat, arg_own, arg_ali, das_nil, das_dat, cont_list, cont_tup, cont_own, cont_ali, contS_own, ownL_own, ownO_own, stor_dat, stor_own, iD_int, ii_int, i1_int, sAddU_int, sAddU_tup, truS_none, truS_bool, truS_int, truS_list, truS_tup, truS_ali, srcOf_list, srcOf_tup, srcOf_ali, Ab.got_some, gZ_nil, gC_cons, gT_tup, onlyDat_dat, notAli_dat, notAli_own, getO_some, fin_none, fin_some, finO_own, callA_nil, callA_dat, callA_ali, argS_none, argS_some, rt_ad, nx_ad, isN_none, isN_tup, notN_none, notN_tup, aNx, aRet, aIf, aSet, aAug, aDrop, aNever, aC, aBin, aBinR, aUn, aTst, aChain, aNot, aAnd, aOr, aIfE, aAndV, aOrV, aNotV, aNil, aCons, aTup, aLst, aCall1, aCallD, aIx, aApp, aExt, aSetIx, aTru, sLen, sAny, sAll, sSum, sList, sTuple, fI, fC, fB, aSeqI, aRng1, aFor, aFrz, gN, aUnp, aLc, aYes, aCall, aRep, aRgT, turn, wipeA, br_true, br_false, List.map_nil, List.map_cons, List.nil_append, List.cons_append, List.replicate, List.getElem?_cons_zero, List.getElem?_cons_succ, List.set_cons_zero, List.set_cons_succ, List.length_cons, List.length_nil, enS_list, enS_tup, aNotT, aEnum, aRev, aAugD, sLt_int, sLt_ints, sRepT_tup, aCall2, sIsB_eq, sNotB_eq, aDnew, aSortD, ownD_own, aSda, aTupD, datAt_dat, sAllD, aSortSetI, isN_int, notN_int, sIn_int, sNotIn_int, sEq_int, sNe_int, sEq_bool, sNe_bool, sEq_str]
      refine ⟨small_le (by decide), sMin_ints ?_⟩
      simp only [m1, aName_eq, nm_dat, nm_own, dd_dat, dd_own, bb_bool, arg_dat, arg_own, arg_ali, das_nil, das_dat, cont_list, cont_tup, cont_own, cont_ali, contS_own, ownL_own, ownO_own, stor_dat, stor_own, iD_int, ii_int, i1_int, sAddU_int, sAddU_tup, truS_none, truS_bool, truS_int, truS_list, truS_tup, truS_ali, srcOf_list, srcOf_tup, srcOf_ali, Ab.got_some, gZ_nil, gC_cons, gT_tup, onlyDat_dat, notAli_dat, notAli_own, getO_some, fin_none, fin_some, finO_own, callA_nil, callA_dat, callA_ali, argS_none, argS_some, rt_ad, nx_ad, isN_none, isN_tup, notN_none, notN_tup, aNx, aRet, aIf, aSet, aAug, aDrop, aNever, aC, aBin, aBinR, aUn, aTst, aChain, aNot, aAnd, aOr, aIfE, aAndV, aOrV, aNotV, aNil, aCons, aTup, aLst, aCall1, aCallD, aIx, aApp, aExt, aSetIx, aTru, sLen, sAny, sAll, sSum, sList, sTuple, fI, fC, fB, aSeqI, aRng1, aFor, aFrz, gN, aUnp, aLc, aYes, aCall, aRep, aRgT, turn, wipeA, br_true, br_false, List.map_nil, List.map_cons, List.nil_append, List.cons_append, List.replicate, List.getElem?_cons_zero, List.getElem?_cons_succ, List.set_cons_zero, List.set_cons_succ, List.length_cons, List.length_nil, enS_list, enS_tup, aNotT, aEnum, aRev, aAugD, sLt_int, sLt_ints, sRepT_tup, aCall2, sIsB_eq, sNotB_eq, aDnew, aSortD, ownD_own, aSda, aTupD, datAt_dat, sAllD, aSortSetI, isN_int, notN_int, sIn_int, sNotIn_int, sEq_int, sNe_int, sEq_bool, sNe_bool, sEq_str]
      refine sMax_ints ?_
      simp only [m2, aName_eq, nm_dat, nm_own, dd_dat, dd_own, bb_bool, arg_dat, arg_own, arg_ali, das_nil, das_dat, cont_list, cont_tup, cont_own, cont_ali, contS_own, ownL_own, ownO_own, stor_dat, stor_own, iD_int, ii_int, i1_int, sAddU_int, sAddU_tup, truS_none, truS_bool, truS_int, truS_list, truS_tup, truS_ali, srcOf_list, srcOf_tup, srcOf_ali, Ab.got_some, gZ_nil, gC_cons, gT_tup, onlyDat_dat, notAli_dat, notAli_own, getO_some, fin_none, fin_some, finO_own, callA_nil, callA_dat, callA_ali, argS_none, argS_some, rt_ad, nx_ad, isN_none, isN_tup, notN_none, notN_tup, aNx, aRet, aIf, aSet, aAug, aDrop, aNever, aC, aBin, aBinR, aUn, aTst, aChain, aNot, aAnd, aOr, aIfE, aAndV, aOrV, aNotV, aNil, aCons, aTup, aLst, aCall1, aCallD, aIx, aApp, aExt, aSetIx, aTru, sLen, sAny, sAll, sSum, sList, sTuple, fI, fC, fB, aSeqI, aRng1, aFor, aFrz, gN, aUnp, aLc, aYes, aCall, aRep, aRgT, turn, wipeA, br_true, br_false, List.map_nil, List.map_cons, List.nil_append, List.cons_append, List.replicate, List.getElem?_cons_zero, List.getElem?_cons_succ, List.set_cons_zero, List.set_cons_succ, List.length_cons, List.length_nil, enS_list, enS_tup, aNotT, aEnum, aRev, aAugD, sLt_int, sLt_ints, sRepT_tup, aCall2, sIsB_eq, sNotB_eq, aDnew, aSortD, ownD_own, aSda, aTupD, datAt_dat, sAllD, aSortSetI, isN_int, notN_int, sIn_int, sNotIn_int, sEq_int, sNe_int, sEq_bool, sNe_bool, sEq_str]
      refine ⟨small_le (by decide), sNe_of (x := [((groupsF rows key).map (minC c)).sum, ((groupsF rows key).map (maxC c)).sum]) (y := [((groupsF rows key).map (minC c)).sum, ((groupsF rows key).map (maxC c)).sum]) (faith_tup faith_int) (n := 1) (fun a => Nat.le_of_eq (depth_tI a)) (by decide) ?_⟩
      simp only [decide_true, Bool.not_true, aName_eq, nm_dat, nm_own, dd_dat, dd_own, bb_bool, arg_dat, arg_own, arg_ali, das_nil, das_dat, cont_list, cont_tup, cont_own, cont_ali, contS_own, ownL_own, ownO_own, stor_dat, stor_own, iD_int, ii_int, i1_int, sAddU_int, sAddU_tup, truS_none, truS_bool, truS_int, truS_list, truS_tup, truS_ali, srcOf_list, srcOf_tup, srcOf_ali, Ab.got_some, gZ_nil, gC_cons, gT_tup, onlyDat_dat, notAli_dat, notAli_own, getO_some, fin_none, fin_some, finO_own, callA_nil, callA_dat, callA_ali, argS_none, argS_some, rt_ad, nx_ad, isN_none, isN_tup, notN_none, notN_tup, aNx, aRet, aIf, aSet, aAug, aDrop, aNever, aC, aBin, aBinR, aUn, aTst, aChain, aNot, aAnd, aOr, aIfE, aAndV, aOrV, aNotV, aNil, aCons, aTup, aLst, aCall1, aCallD, aIx, aApp, aExt, aSetIx, aTru, sLen, sAny, sAll, sSum, sList, sTuple, fI, fC, fB, aSeqI, aRng1, aFor, aFrz, gN, aUnp, aLc, aYes, aCall, aRep, aRgT, turn, wipeA, br_true, br_false, List.map_nil, List.map_cons, List.nil_append, List.cons_append, List.replicate, List.getElem?_cons_zero, List.getElem?_cons_succ, List.set_cons_zero, List.set_cons_succ, List.length_cons, List.length_nil, enS_list, enS_tup, aNotT, aEnum, aRev, aAugD, sLt_int, sLt_ints, sRepT_tup, aCall2, sIsB_eq, sNotB_eq, aDnew, aSortD, ownD_own, aSda, aTupD, datAt_dat, sAllD, aSortSetI, isN_int, notN_int, sIn_int, sNotIn_int, sEq_int, sNe_int, sEq_bool, sNe_bool, sEq_str]
      exact kn
    simp only [aName_eq, nm_dat, nm_own, dd_dat, dd_own, bb_bool, arg_dat, arg_own, arg_ali, das_nil, das_dat, cont_list, cont_tup, cont_own, cont_ali, contS_own, ownL_own, ownO_own, stor_dat, stor_own, iD_int, ii_int, i1_int, sAddU_int, sAddU_tup, truS_none, truS_bool, truS_int, truS_list, truS_tup, truS_ali, srcOf_list, srcOf_tup, srcOf_ali, Ab.got_some, gZ_nil, gC_cons, gT_tup, onlyDat_dat, notAli_dat, notAli_own, getO_some, fin_none, fin_some, finO_own, callA_nil, callA_dat, callA_ali, argS_none, argS_some, rt_ad, nx_ad, isN_none, isN_tup, notN_none, notN_tup, aNx, aRet, aIf, aSet, aAug, aDrop, aNever, aC, aBin, aBinR, aUn, aTst, aChain, aNot, aAnd, aOr, aIfE, aAndV, aOrV, aNotV, aNil, aCons, aTup, aLst, aCall1, aCallD, aIx, aApp, aExt, aSetIx, aTru, sLen, sAny, sAll, sSum, sList, sTuple, fI, fC, fB, aSeqI, aRng1, aFor, aFrz, gN, aUnp, aLc, aYes, aCall, aRep, aRgT, turn, wipeA, br_true, br_false, List.map_nil, List.map_cons, List.nil_append, List.cons_append, List.replicate, List.getElem?_cons_zero, List.getElem?_cons_succ, List.set_cons_zero, List.set_cons_succ, List.length_cons, List.length_nil, enS_list, enS_tup, aNotT, aEnum, aRev, aAugD, sLt_int, sLt_ints, sRepT_tup, aCall2, sIsB_eq, sNotB_eq, aDnew, aSortD, ownD_own, aSda, aTupD, datAt_dat, sAllD, aSortSetI, isN_int, notN_int, sIn_int, sNotIn_int, sEq_int, sNe_int, sEq_bool, sNe_bool, sEq_str]
    refine ⟨ns, t, l, s, wd, rows, key, q, kind, c, rfl, rfl, hTp, w2, w3, hR, hT, hq, c0, c1, hkind, fun o => ?_⟩
    simp only [aName_eq, nm_dat, nm_own, dd_dat, dd_own, bb_bool, arg_dat, arg_own, arg_ali, das_nil, das_dat, cont_list, cont_tup, cont_own, cont_ali, contS_own, ownL_own, ownO_own, stor_dat, stor_own, iD_int, ii_int, i1_int, sAddU_int, sAddU_tup, truS_none, truS_bool, truS_int, truS_list, truS_tup, truS_ali, srcOf_list, srcOf_tup, srcOf_ali, Ab.got_some, gZ_nil, gC_cons, gT_tup, onlyDat_dat, notAli_dat, notAli_own, getO_some, fin_none, fin_some, finO_own, callA_nil, callA_dat, callA_ali, argS_none, argS_some, rt_ad, nx_ad, isN_none, isN_tup, notN_none, notN_tup, aNx, aRet, aIf, aSet, aAug, aDrop, aNever, aC, aBin, aBinR, aUn, aTst, aChain, aNot, aAnd, aOr, aIfE, aAndV, aOrV, aNotV, aNil, aCons, aTup, aLst, aCall1, aCallD, aIx, aApp, aExt, aSetIx, aTru, sLen, sAny, sAll, sSum, sList, sTuple, fI, fC, fB, aSeqI, aRng1, aFor, aFrz, gN, aUnp, aLc, aYes, aCall, aRep, aRgT, turn, wipeA, br_true, br_false, List.map_nil, List.map_cons, List.nil_append, List.cons_append, List.replicate, List.getElem?_cons_zero, List.getElem?_cons_succ, List.set_cons_zero, List.set_cons_succ, List.length_cons, List.length_nil, enS_list, enS_tup, aNotT, aEnum, aRev, aAugD, sLt_int, sLt_ints, sRepT_tup, aCall2, sIsB_eq, sNotB_eq, aDnew, aSortD, ownD_own, aSda, aTupD, datAt_dat, sAllD, aSortSetI, isN_int, notN_int, sIn_int, sNotIn_int, sEq_int, sNe_int, sEq_bool, sNe_bool, sEq_str]
    exact k
end
end K69

set_option maxHeartbeats 4000000
namespace K69
open PySem PySem.Spec PyProof.Rows L2 Ab
theorem all_mk {K : PySem.W.Frag} {h : Heap} {mg : Str → Option Value} (X : K.In h) (G : h.Ns mainGlobals mg)
    {f_check_broken : Addr} {od_check_broken an_check_broken : Option Addr} {sl_check_broken : Array (Option Value)} {oc_check_broken kV_check_broken dc_check_broken pm_check_broken cd_check_broken ct_check_broken : Value}
    (a_check_broken : PySem.W.nsIn K mainGlobals "check_broken" = some (some (.ref f_check_broken))) (l_check_broken : K.lookup f_check_broken = some ⟨oc_check_broken, od_check_broken, .func (PySem.W.fnOf "check_broken" "check_broken" (defArgs st_check_broken) (defBody st_check_broken) (defScope st_check_broken) .none kV_check_broken dc_check_broken pm_check_broken an_check_broken cd_check_broken ct_check_broken), sl_check_broken⟩) (i_check_broken : PySem.W.codeIn K cd_check_broken "check_broken" = true) (k_check_broken : PySem.W.keepIn K (.ref f_check_broken) = true)
    {f_groups_of : Addr} {od_groups_of an_groups_of : Option Addr} {sl_groups_of : Array (Option Value)} {oc_groups_of kV_groups_of dc_groups_of pm_groups_of cd_groups_of ct_groups_of : Value}
    (a_groups_of : PySem.W.nsIn K mainGlobals "groups_of" = some (some (.ref f_groups_of))) (l_groups_of : K.lookup f_groups_of = some ⟨oc_groups_of, od_groups_of, .func (PySem.W.fnOf "groups_of" "groups_of" (defArgs st_groups_of) (defBody st_groups_of) (defScope st_groups_of) .none kV_groups_of dc_groups_of pm_groups_of an_groups_of cd_groups_of ct_groups_of), sl_groups_of⟩) (i_groups_of : PySem.W.codeIn K cd_groups_of "groups_of" = true) (k_groups_of : PySem.W.keepIn K (.ref f_groups_of) = true)
    {f_groups : Addr} {od_groups an_groups : Option Addr} {sl_groups : Array (Option Value)} {oc_groups kV_groups dc_groups pm_groups cd_groups ct_groups : Value}
    (a_groups : PySem.W.nsIn K mainGlobals "groups" = some (some (.ref f_groups))) (l_groups : K.lookup f_groups = some ⟨oc_groups, od_groups, .func (PySem.W.fnOf "groups" "groups" (defArgs st_groups) (defBody st_groups) (defScope st_groups) .none kV_groups dc_groups pm_groups an_groups cd_groups ct_groups), sl_groups⟩) (i_groups : PySem.W.codeIn K cd_groups "groups" = true) (k_groups : PySem.W.keepIn K (.ref f_groups) = true)
    {f_count : Addr} {od_count an_count : Option Addr} {sl_count : Array (Option Value)} {oc_count kV_count dc_count pm_count cd_count ct_count : Value}
    (a_count : PySem.W.nsIn K mainGlobals "count" = some (some (.ref f_count))) (l_count : K.lookup f_count = some ⟨oc_count, od_count, .func (PySem.W.fnOf "count" "count" (defArgs st_count) (defBody st_count) (defScope st_count) .none kV_count dc_count pm_count an_count cd_count ct_count), sl_count⟩) (i_count : PySem.W.codeIn K cd_count "count" = true) (k_count : PySem.W.keepIn K (.ref f_count) = true)
    {f_mending_at : Addr} {od_mending_at an_mending_at : Option Addr} {sl_mending_at : Array (Option Value)} {oc_mending_at kV_mending_at dc_mending_at pm_mending_at cd_mending_at ct_mending_at : Value}
    (a_mending_at : PySem.W.nsIn K mainGlobals "mending_at" = some (some (.ref f_mending_at))) (l_mending_at : K.lookup f_mending_at = some ⟨oc_mending_at, od_mending_at, .func (PySem.W.fnOf "mending_at" "mending_at" (defArgs st_mending_at) (defBody st_mending_at) (defScope st_mending_at) .none kV_mending_at dc_mending_at pm_mending_at an_mending_at cd_mending_at ct_mending_at), sl_mending_at⟩) (i_mending_at : PySem.W.codeIn K cd_mending_at "mending_at" = true) (k_mending_at : PySem.W.keepIn K (.ref f_mending_at) = true)
    {f_is_mending : Addr} {od_is_mending an_is_mending : Option Addr} {sl_is_mending : Array (Option Value)} {oc_is_mending kV_is_mending dc_is_mending pm_is_mending cd_is_mending ct_is_mending : Value}
    (a_is_mending : PySem.W.nsIn K mainGlobals "is_mending" = some (some (.ref f_is_mending))) (l_is_mending : K.lookup f_is_mending = some ⟨oc_is_mending, od_is_mending, .func (PySem.W.fnOf "is_mending" "is_mending" (defArgs st_is_mending) (defBody st_is_mending) (defScope st_is_mending) .none kV_is_mending dc_is_mending pm_is_mending an_is_mending cd_is_mending ct_is_mending), sl_is_mending⟩) (i_is_mending : PySem.W.codeIn K cd_is_mending "is_mending" = true) (k_is_mending : PySem.W.keepIn K (.ref f_is_mending) = true)
    {f_fits : Addr} {od_fits an_fits : Option Addr} {sl_fits : Array (Option Value)} {oc_fits kV_fits dc_fits pm_fits cd_fits ct_fits : Value}
    (a_fits : PySem.W.nsIn K mainGlobals "fits" = some (some (.ref f_fits))) (l_fits : K.lookup f_fits = some ⟨oc_fits, od_fits, .func (PySem.W.fnOf "fits" "fits" (defArgs st_fits) (defBody st_fits) (defScope st_fits) .none kV_fits dc_fits pm_fits an_fits cd_fits ct_fits), sl_fits⟩) (i_fits : PySem.W.codeIn K cd_fits "fits" = true) (k_fits : PySem.W.keepIn K (.ref f_fits) = true)
    {f_check_question : Addr} {od_check_question an_check_question : Option Addr} {sl_check_question : Array (Option Value)} {oc_check_question kV_check_question dc_check_question pm_check_question cd_check_question ct_check_question : Value}
    (a_check_question : PySem.W.nsIn K mainGlobals "check_question" = some (some (.ref f_check_question))) (l_check_question : K.lookup f_check_question = some ⟨oc_check_question, od_check_question, .func (PySem.W.fnOf "check_question" "check_question" (defArgs st_check_question) (defBody st_check_question) (defScope st_check_question) .none kV_check_question dc_check_question pm_check_question an_check_question cd_check_question ct_check_question), sl_check_question⟩) (i_check_question : PySem.W.codeIn K cd_check_question "check_question" = true) (k_check_question : PySem.W.keepIn K (.ref f_check_question) = true)
    {f_is_sure : Addr} {od_is_sure an_is_sure : Option Addr} {sl_is_sure : Array (Option Value)} {oc_is_sure kV_is_sure dc_is_sure pm_is_sure cd_is_sure ct_is_sure : Value}
    (a_is_sure : PySem.W.nsIn K mainGlobals "is_sure" = some (some (.ref f_is_sure))) (l_is_sure : K.lookup f_is_sure = some ⟨oc_is_sure, od_is_sure, .func (PySem.W.fnOf "is_sure" "is_sure" (defArgs st_is_sure) (defBody st_is_sure) (defScope st_is_sure) .none kV_is_sure dc_is_sure pm_is_sure an_is_sure cd_is_sure ct_is_sure), sl_is_sure⟩) (i_is_sure : PySem.W.codeIn K cd_is_sure "is_sure" = true) (k_is_sure : PySem.W.keepIn K (.ref f_is_sure) = true)
    {f_sums : Addr} {od_sums an_sums : Option Addr} {sl_sums : Array (Option Value)} {oc_sums kV_sums dc_sums pm_sums cd_sums ct_sums : Value}
    (a_sums : PySem.W.nsIn K mainGlobals "sums" = some (some (.ref f_sums))) (l_sums : K.lookup f_sums = some ⟨oc_sums, od_sums, .func (PySem.W.fnOf "sums" "sums" (defArgs st_sums) (defBody st_sums) (defScope st_sums) .none kV_sums dc_sums pm_sums an_sums cd_sums ct_sums), sl_sums⟩) (i_sums : PySem.W.codeIn K cd_sums "sums" = true) (k_sums : PySem.W.keepIn K (.ref f_sums) = true)
    {f_counts : Addr} {od_counts an_counts : Option Addr} {sl_counts : Array (Option Value)} {oc_counts kV_counts dc_counts pm_counts cd_counts ct_counts : Value}
    (a_counts : PySem.W.nsIn K mainGlobals "counts" = some (some (.ref f_counts))) (l_counts : K.lookup f_counts = some ⟨oc_counts, od_counts, .func (PySem.W.fnOf "counts" "counts" (defArgs st_counts) (defBody st_counts) (defScope st_counts) .none kV_counts dc_counts pm_counts an_counts cd_counts ct_counts), sl_counts⟩) (i_counts : PySem.W.codeIn K cd_counts "counts" = true) (k_counts : PySem.W.keepIn K (.ref f_counts) = true)
    {f_chance : Addr} {od_chance an_chance : Option Addr} {sl_chance : Array (Option Value)} {oc_chance kV_chance dc_chance pm_chance cd_chance ct_chance : Value}
    (a_chance : PySem.W.nsIn K mainGlobals "chance" = some (some (.ref f_chance))) (l_chance : K.lookup f_chance = some ⟨oc_chance, od_chance, .func (PySem.W.fnOf "chance" "chance" (defArgs st_chance) (defBody st_chance) (defScope st_chance) .none kV_chance dc_chance pm_chance an_chance cd_chance ct_chance), sl_chance⟩) (i_chance : PySem.W.codeIn K cd_chance "chance" = true) (k_chance : PySem.W.keepIn K (.ref f_chance) = true)
    {f_pairs_of : Addr} {od_pairs_of an_pairs_of : Option Addr} {sl_pairs_of : Array (Option Value)} {oc_pairs_of kV_pairs_of dc_pairs_of pm_pairs_of cd_pairs_of ct_pairs_of : Value}
    (a_pairs_of : PySem.W.nsIn K mainGlobals "pairs_of" = some (some (.ref f_pairs_of))) (l_pairs_of : K.lookup f_pairs_of = some ⟨oc_pairs_of, od_pairs_of, .func (PySem.W.fnOf "pairs_of" "pairs_of" (defArgs st_pairs_of) (defBody st_pairs_of) (defScope st_pairs_of) .none kV_pairs_of dc_pairs_of pm_pairs_of an_pairs_of cd_pairs_of ct_pairs_of), sl_pairs_of⟩) (i_pairs_of : PySem.W.codeIn K cd_pairs_of "pairs_of" = true) (k_pairs_of : PySem.W.keepIn K (.ref f_pairs_of) = true)
    {f_check_two : Addr} {od_check_two an_check_two : Option Addr} {sl_check_two : Array (Option Value)} {oc_check_two kV_check_two dc_check_two pm_check_two cd_check_two ct_check_two : Value}
    (a_check_two : PySem.W.nsIn K mainGlobals "check_two" = some (some (.ref f_check_two))) (l_check_two : K.lookup f_check_two = some ⟨oc_check_two, od_check_two, .func (PySem.W.fnOf "check_two" "check_two" (defArgs st_check_two) (defBody st_check_two) (defScope st_check_two) .none kV_check_two dc_check_two pm_check_two an_check_two cd_check_two ct_check_two), sl_check_two⟩) (i_check_two : PySem.W.codeIn K cd_check_two "check_two" = true) (k_check_two : PySem.W.keepIn K (.ref f_check_two) = true)
    {f_apart : Addr} {od_apart an_apart : Option Addr} {sl_apart : Array (Option Value)} {oc_apart kV_apart dc_apart pm_apart cd_apart ct_apart : Value}
    (a_apart : PySem.W.nsIn K mainGlobals "apart" = some (some (.ref f_apart))) (l_apart : K.lookup f_apart = some ⟨oc_apart, od_apart, .func (PySem.W.fnOf "apart" "apart" (defArgs st_apart) (defBody st_apart) (defScope st_apart) .none kV_apart dc_apart pm_apart an_apart cd_apart ct_apart), sl_apart⟩) (i_apart : PySem.W.codeIn K cd_apart "apart" = true) (k_apart : PySem.W.keepIn K (.ref f_apart) = true)
    {f_takes_apart : Addr} {od_takes_apart an_takes_apart : Option Addr} {sl_takes_apart : Array (Option Value)} {oc_takes_apart kV_takes_apart dc_takes_apart pm_takes_apart cd_takes_apart ct_takes_apart : Value}
    (a_takes_apart : PySem.W.nsIn K mainGlobals "takes_apart" = some (some (.ref f_takes_apart))) (l_takes_apart : K.lookup f_takes_apart = some ⟨oc_takes_apart, od_takes_apart, .func (PySem.W.fnOf "takes_apart" "takes_apart" (defArgs st_takes_apart) (defBody st_takes_apart) (defScope st_takes_apart) .none kV_takes_apart dc_takes_apart pm_takes_apart an_takes_apart cd_takes_apart ct_takes_apart), sl_takes_apart⟩) (i_takes_apart : PySem.W.codeIn K cd_takes_apart "takes_apart" = true) (k_takes_apart : PySem.W.keepIn K (.ref f_takes_apart) = true)
    {f__law_begin : Addr} {od__law_begin an__law_begin : Option Addr} {sl__law_begin : Array (Option Value)} {oc__law_begin kV__law_begin dc__law_begin pm__law_begin cd__law_begin ct__law_begin : Value}
    (a__law_begin : PySem.W.nsIn K mainGlobals "_law_begin" = some (some (.ref f__law_begin))) (l__law_begin : K.lookup f__law_begin = some ⟨oc__law_begin, od__law_begin, .func (PySem.W.fnOf "_law_begin" "_law_begin" (defArgs st__law_begin) (defBody st__law_begin) (defScope st__law_begin) .none kV__law_begin dc__law_begin pm__law_begin an__law_begin cd__law_begin ct__law_begin), sl__law_begin⟩) (i__law_begin : PySem.W.codeIn K cd__law_begin "_law_begin" = true) (k__law_begin : PySem.W.keepIn K (.ref f__law_begin) = true)
    {f__law_take : Addr} {od__law_take an__law_take : Option Addr} {sl__law_take : Array (Option Value)} {oc__law_take kV__law_take dc__law_take pm__law_take cd__law_take ct__law_take : Value}
    (a__law_take : PySem.W.nsIn K mainGlobals "_law_take" = some (some (.ref f__law_take))) (l__law_take : K.lookup f__law_take = some ⟨oc__law_take, od__law_take, .func (PySem.W.fnOf "_law_take" "_law_take" (defArgs st__law_take) (defBody st__law_take) (defScope st__law_take) .none kV__law_take dc__law_take pm__law_take an__law_take cd__law_take ct__law_take), sl__law_take⟩) (i__law_take : PySem.W.codeIn K cd__law_take "_law_take" = true) (k__law_take : PySem.W.keepIn K (.ref f__law_take) = true)
    {f__law_rows : Addr} {od__law_rows an__law_rows : Option Addr} {sl__law_rows : Array (Option Value)} {oc__law_rows kV__law_rows dc__law_rows pm__law_rows cd__law_rows ct__law_rows : Value}
    (a__law_rows : PySem.W.nsIn K mainGlobals "_law_rows" = some (some (.ref f__law_rows))) (l__law_rows : K.lookup f__law_rows = some ⟨oc__law_rows, od__law_rows, .func (PySem.W.fnOf "_law_rows" "_law_rows" (defArgs st__law_rows) (defBody st__law_rows) (defScope st__law_rows) .none kV__law_rows dc__law_rows pm__law_rows an__law_rows cd__law_rows ct__law_rows), sl__law_rows⟩) (i__law_rows : PySem.W.codeIn K cd__law_rows "_law_rows" = true) (k__law_rows : PySem.W.keepIn K (.ref f__law_rows) = true)
    {f__law_part1 : Addr} {od__law_part1 an__law_part1 : Option Addr} {sl__law_part1 : Array (Option Value)} {oc__law_part1 kV__law_part1 dc__law_part1 pm__law_part1 cd__law_part1 ct__law_part1 : Value}
    (a__law_part1 : PySem.W.nsIn K mainGlobals "_law_part1" = some (some (.ref f__law_part1))) (l__law_part1 : K.lookup f__law_part1 = some ⟨oc__law_part1, od__law_part1, .func (PySem.W.fnOf "_law_part1" "_law_part1" (defArgs st__law_part1) (defBody st__law_part1) (defScope st__law_part1) .none kV__law_part1 dc__law_part1 pm__law_part1 an__law_part1 cd__law_part1 ct__law_part1), sl__law_part1⟩) (i__law_part1 : PySem.W.codeIn K cd__law_part1 "_law_part1" = true) (k__law_part1 : PySem.W.keepIn K (.ref f__law_part1) = true)
    {f_law : Addr} {od_law an_law : Option Addr} {sl_law : Array (Option Value)} {oc_law kV_law dc_law pm_law cd_law ct_law : Value}
    (a_law : PySem.W.nsIn K mainGlobals "law" = some (some (.ref f_law))) (l_law : K.lookup f_law = some ⟨oc_law, od_law, .func (PySem.W.fnOf "law" "law" (defArgs st_law) (defBody st_law) (defScope st_law) .none kV_law dc_law pm_law an_law cd_law ct_law), sl_law⟩) (i_law : PySem.W.codeIn K cd_law "law" = true) (k_law : PySem.W.keepIn K (.ref f_law) = true)
    (z_abs : PySem.W.nsIn K mainGlobals "abs" = some none)
    (z_all : PySem.W.nsIn K mainGlobals "all" = some none)
    (z_any : PySem.W.nsIn K mainGlobals "any" = some none)
    (z_enumerate : PySem.W.nsIn K mainGlobals "enumerate" = some none)
    (z_int : PySem.W.nsIn K mainGlobals "int" = some none)
    (z_len : PySem.W.nsIn K mainGlobals "len" = some none)
    (z_list : PySem.W.nsIn K mainGlobals "list" = some none)
    (z_max : PySem.W.nsIn K mainGlobals "max" = some none)
    (z_min : PySem.W.nsIn K mainGlobals "min" = some none)
    (z_range : PySem.W.nsIn K mainGlobals "range" = some none)
    (z_set : PySem.W.nsIn K mainGlobals "set" = some none)
    (z_sorted : PySem.W.nsIn K mainGlobals "sorted" = some none)
    (z_sum : PySem.W.nsIn K mainGlobals "sum" = some none)
    (z_tuple : PySem.W.nsIn K mainGlobals "tuple" = some none)
    {t_MOST_MENDINGS : Tok} (y_MOST_MENDINGS : PySem.W.nsIn K mainGlobals "MOST_MENDINGS" = some (some (.int 5000 t_MOST_MENDINGS)))
    {t_MOST_ROWS : Tok} (y_MOST_ROWS : PySem.W.nsIn K mainGlobals "MOST_ROWS" = some (some (.int 40 t_MOST_ROWS)))
    : ∃ D : Defs K mg, True := by
  have F_check_broken := fun_mk (st := st_check_broken) l_check_broken i_check_broken k_check_broken
  have F_groups_of := fun_mk (st := st_groups_of) l_groups_of i_groups_of k_groups_of
  have F_groups := fun_mk (st := st_groups) l_groups i_groups k_groups
  have F_count := fun_mk (st := st_count) l_count i_count k_count
  have F_mending_at := fun_mk (st := st_mending_at) l_mending_at i_mending_at k_mending_at
  have F_is_mending := fun_mk (st := st_is_mending) l_is_mending i_is_mending k_is_mending
  have F_fits := fun_mk (st := st_fits) l_fits i_fits k_fits
  have F_check_question := fun_mk (st := st_check_question) l_check_question i_check_question k_check_question
  have F_is_sure := fun_mk (st := st_is_sure) l_is_sure i_is_sure k_is_sure
  have F_sums := fun_mk (st := st_sums) l_sums i_sums k_sums
  have F_counts := fun_mk (st := st_counts) l_counts i_counts k_counts
  have F_chance := fun_mk (st := st_chance) l_chance i_chance k_chance
  have F_pairs_of := fun_mk (st := st_pairs_of) l_pairs_of i_pairs_of k_pairs_of
  have F_check_two := fun_mk (st := st_check_two) l_check_two i_check_two k_check_two
  have F_apart := fun_mk (st := st_apart) l_apart i_apart k_apart
  have F_takes_apart := fun_mk (st := st_takes_apart) l_takes_apart i_takes_apart k_takes_apart
  have F__law_begin := fun_mk (st := st__law_begin) l__law_begin i__law_begin k__law_begin
  have F__law_take := fun_mk (st := st__law_take) l__law_take i__law_take k__law_take
  have F__law_rows := fun_mk (st := st__law_rows) l__law_rows i__law_rows k__law_rows
  have F__law_part1 := fun_mk (st := st__law_part1) l__law_part1 i__law_part1 k__law_part1
  have F_law := fun_mk (st := st_law) l_law i_law k_law
  exact ⟨{ f_check_broken := f_check_broken, fd_check_broken := _, F_check_broken := F_check_broken, n_check_broken := F_check_broken.binds (ps := ["rows", "key"]) (fun _ _ _ _ _ _ us hl => match us, hl with | [_, _], _ => rfl), g_check_broken := PySem.W.mg_of X G a_check_broken, f_groups_of := f_groups_of, fd_groups_of := _, F_groups_of := F_groups_of, n_groups_of := F_groups_of.binds (ps := ["rows", "key"]) (fun _ _ _ _ _ _ us hl => match us, hl with | [_, _], _ => rfl), g_groups_of := PySem.W.mg_of X G a_groups_of, f_groups := f_groups, fd_groups := _, F_groups := F_groups, n_groups := F_groups.binds (ps := ["rows", "key"]) (fun _ _ _ _ _ _ us hl => match us, hl with | [_, _], _ => rfl), g_groups := PySem.W.mg_of X G a_groups, f_count := f_count, fd_count := _, F_count := F_count, n_count := F_count.binds (ps := ["rows", "key"]) (fun _ _ _ _ _ _ us hl => match us, hl with | [_, _], _ => rfl), g_count := PySem.W.mg_of X G a_count, f_mending_at := f_mending_at, fd_mending_at := _, F_mending_at := F_mending_at, n_mending_at := F_mending_at.binds (ps := ["rows", "key", "number"]) (fun _ _ _ _ _ _ us hl => match us, hl with | [_, _, _], _ => rfl), g_mending_at := PySem.W.mg_of X G a_mending_at, f_is_mending := f_is_mending, fd_is_mending := _, F_is_mending := F_is_mending, n_is_mending := F_is_mending.binds (ps := ["rows", "key", "kept"]) (fun _ _ _ _ _ _ us hl => match us, hl with | [_, _, _], _ => rfl), g_is_mending := PySem.W.mg_of X G a_is_mending, f_fits := f_fits, fd_fits := _, F_fits := F_fits, n_fits := F_fits.binds (ps := ["question", "row"]) (fun _ _ _ _ _ _ us hl => match us, hl with | [_, _], _ => rfl), g_fits := PySem.W.mg_of X G a_fits, f_check_question := f_check_question, fd_check_question := _, F_check_question := F_check_question, n_check_question := F_check_question.binds (ps := ["rows", "key", "question"]) (fun _ _ _ _ _ _ us hl => match us, hl with | [_, _, _], _ => rfl), g_check_question := PySem.W.mg_of X G a_check_question, f_is_sure := f_is_sure, fd_is_sure := _, F_is_sure := F_is_sure, n_is_sure := F_is_sure.binds (ps := ["rows", "key", "question"]) (fun _ _ _ _ _ _ us hl => match us, hl with | [_, _, _], _ => rfl), g_is_sure := PySem.W.mg_of X G a_is_sure, f_sums := f_sums, fd_sums := _, F_sums := F_sums, n_sums := F_sums.binds (ps := ["rows", "key", "column"]) (fun _ _ _ _ _ _ us hl => match us, hl with | [_, _, _], _ => rfl), g_sums := PySem.W.mg_of X G a_sums, f_counts := f_counts, fd_counts := _, F_counts := F_counts, n_counts := F_counts.binds (ps := ["rows", "key", "question"]) (fun _ _ _ _ _ _ us hl => match us, hl with | [_, _, _], _ => rfl), g_counts := PySem.W.mg_of X G a_counts, f_chance := f_chance, fd_chance := _, F_chance := F_chance, n_chance := F_chance.binds (ps := ["rows", "key", "question"]) (fun _ _ _ _ _ _ us hl => match us, hl with | [_, _, _], _ => rfl), g_chance := PySem.W.mg_of X G a_chance, f_pairs_of := f_pairs_of, fd_pairs_of := _, F_pairs_of := F_pairs_of, n_pairs_of := F_pairs_of.binds (ps := ["first", "second", "column", "other"]) (fun _ _ _ _ _ _ us hl => match us, hl with | [_, _, _, _], _ => rfl), g_pairs_of := PySem.W.mg_of X G a_pairs_of, f_check_two := f_check_two, fd_check_two := _, F_check_two := F_check_two, n_check_two := F_check_two.binds (ps := ["first", "key", "second", "other_key", "column", "other"]) (fun _ _ _ _ _ _ us hl => match us, hl with | [_, _, _, _, _, _], _ => rfl), g_check_two := PySem.W.mg_of X G a_check_two, f_apart := f_apart, fd_apart := _, F_apart := F_apart, n_apart := F_apart.binds (ps := ["first", "key", "second", "other_key", "column", "other"]) (fun _ _ _ _ _ _ us hl => match us, hl with | [_, _, _, _, _, _], _ => rfl), g_apart := PySem.W.mg_of X G a_apart, f_takes_apart := f_takes_apart, fd_takes_apart := _, F_takes_apart := F_takes_apart, n_takes_apart := F_takes_apart.binds (ps := ["first", "key", "second", "other_key", "column", "other", "told"]) (fun _ _ _ _ _ _ us hl => match us, hl with | [_, _, _, _, _, _, _], _ => rfl), g_takes_apart := PySem.W.mg_of X G a_takes_apart, f__law_begin := f__law_begin, fd__law_begin := _, F__law_begin := F__law_begin, n__law_begin := F__law_begin.binds (ps := ["script"]) (fun _ _ _ _ _ _ us hl => match us, hl with | [_], _ => rfl), g__law_begin := PySem.W.mg_of X G a__law_begin, f__law_take := f__law_take, fd__law_take := _, F__law_take := F__law_take, n__law_take := F__law_take.binds (ps := ["d", "many"]) (fun _ _ _ _ _ _ us hl => match us, hl with | [_, _], _ => rfl), g__law_take := PySem.W.mg_of X G a__law_take, f__law_rows := f__law_rows, fd__law_rows := _, F__law_rows := F__law_rows, n__law_rows := F__law_rows.binds (ps := ["d", "width"]) (fun _ _ _ _ _ _ us hl => match us, hl with | [_, _], _ => rfl), g__law_rows := PySem.W.mg_of X G a__law_rows, f__law_part1 := f__law_part1, fd__law_part1 := _, F__law_part1 := F__law_part1, n__law_part1 := F__law_part1.binds (ps := ["d", "width", "rows", "key", "many", "parts", "question", "kind", "column"]) (fun _ _ _ _ _ _ us hl => match us, hl with | [_, _, _, _, _, _, _, _, _], _ => rfl), g__law_part1 := PySem.W.mg_of X G a__law_part1, f_law := f_law, fd_law := _, F_law := F_law, n_law := F_law.binds (ps := ["script"]) (fun _ _ _ _ _ _ us hl => match us, hl with | [_], _ => rfl), g_law := PySem.W.mg_of X G a_law, x_law := fun s u => .of_eq rfl, b_abs := PySem.W.mg_none_of X G z_abs, b_all := PySem.W.mg_none_of X G z_all, b_any := PySem.W.mg_none_of X G z_any, b_enumerate := PySem.W.mg_none_of X G z_enumerate, b_int := PySem.W.mg_none_of X G z_int, b_len := PySem.W.mg_none_of X G z_len, b_list := PySem.W.mg_none_of X G z_list, b_max := PySem.W.mg_none_of X G z_max, b_min := PySem.W.mg_none_of X G z_min, b_range := PySem.W.mg_none_of X G z_range, b_set := PySem.W.mg_none_of X G z_set, b_sorted := PySem.W.mg_none_of X G z_sorted, b_sum := PySem.W.mg_none_of X G z_sum, b_tuple := PySem.W.mg_none_of X G z_tuple, t_MOST_MENDINGS := t_MOST_MENDINGS, c_MOST_MENDINGS := PySem.W.mg_of X G y_MOST_MENDINGS, t_MOST_ROWS := t_MOST_ROWS, c_MOST_ROWS := PySem.W.mg_of X G y_MOST_ROWS }, trivial⟩
end K69
open PySem PySem.W PyProof.Rows
set_option maxHeartbeats 0 in
theorem PySem.Challenge.cw_tableguild_k69_whole_mendings_and_questi_holds : PySem.Challenge.rw_tableguild_k69_whole_mendings_and_questi.Holds := by
  w_on; o_law; k_head; (case hw => w_witness2)
  k_fill
  refine L2.walk_of (l := PySem.Challenge.rw_tableguild_k69_whole_mendings_and_questi) (n := 63) (k := 6) (x := "script") (CX := fun _ => L2.CX0) (sp := fun w => Ab.toSp _ K69.sp_law) rfl (by decide) rfl ⟨rfl, by decide, by decide⟩ (fun w h Y => PySem.W.kIn_of Y) ?F (fun _ H a ns hl _ hS => Ab.head_of hS fun Kc k => ⟨ns, rfl, rfl, hl, k⟩) (fun _ _ _ _ _ h => h)
  case F =>
    intro w mg fa h KX G hmg
    refine' Exists.elim (K69.all_mk KX G ?a_check_broken ?l_check_broken ?i_check_broken ?k_check_broken ?a_groups_of ?l_groups_of ?i_groups_of ?k_groups_of ?a_groups ?l_groups ?i_groups ?k_groups ?a_count ?l_count ?i_count ?k_count ?a_mending_at ?l_mending_at ?i_mending_at ?k_mending_at ?a_is_mending ?l_is_mending ?i_is_mending ?k_is_mending ?a_fits ?l_fits ?i_fits ?k_fits ?a_check_question ?l_check_question ?i_check_question ?k_check_question ?a_is_sure ?l_is_sure ?i_is_sure ?k_is_sure ?a_sums ?l_sums ?i_sums ?k_sums ?a_counts ?l_counts ?i_counts ?k_counts ?a_chance ?l_chance ?i_chance ?k_chance ?a_pairs_of ?l_pairs_of ?i_pairs_of ?k_pairs_of ?a_check_two ?l_check_two ?i_check_two ?k_check_two ?a_apart ?l_apart ?i_apart ?k_apart ?a_takes_apart ?l_takes_apart ?i_takes_apart ?k_takes_apart ?a__law_begin ?l__law_begin ?i__law_begin ?k__law_begin ?a__law_take ?l__law_take ?i__law_take ?k__law_take ?a__law_rows ?l__law_rows ?i__law_rows ?k__law_rows ?a__law_part1 ?l__law_part1 ?i__law_part1 ?k__law_part1 ?a_law ?l_law ?i_law ?k_law ?z_abs ?z_all ?z_any ?z_enumerate ?z_int ?z_len ?z_list ?z_max ?z_min ?z_range ?z_set ?z_sorted ?z_sum ?z_tuple ?y_MOST_MENDINGS ?y_MOST_ROWS) fun D _ => ?fin
    (case a_check_broken => k_is)
    (case l_check_broken => k_is)
    (case i_check_broken => k_is)
    (case k_check_broken => k_is)
    (case a_groups_of => k_is)
    (case l_groups_of => k_is)
    (case i_groups_of => k_is)
    (case k_groups_of => k_is)
    (case a_groups => k_is)
    (case l_groups => k_is)
    (case i_groups => k_is)
    (case k_groups => k_is)
    (case a_count => k_is)
    (case l_count => k_is)
    (case i_count => k_is)
    (case k_count => k_is)
    (case a_mending_at => k_is)
    (case l_mending_at => k_is)
    (case i_mending_at => k_is)
    (case k_mending_at => k_is)
    (case a_is_mending => k_is)
    (case l_is_mending => k_is)
    (case i_is_mending => k_is)
    (case k_is_mending => k_is)
    (case a_fits => k_is)
    (case l_fits => k_is)
    (case i_fits => k_is)
    (case k_fits => k_is)
    (case a_check_question => k_is)
    (case l_check_question => k_is)
    (case i_check_question => k_is)
    (case k_check_question => k_is)
    (case a_is_sure => k_is)
    (case l_is_sure => k_is)
    (case i_is_sure => k_is)
    (case k_is_sure => k_is)
    (case a_sums => k_is)
    (case l_sums => k_is)
    (case i_sums => k_is)
    (case k_sums => k_is)
    (case a_counts => k_is)
    (case l_counts => k_is)
    (case i_counts => k_is)
    (case k_counts => k_is)
    (case a_chance => k_is)
    (case l_chance => k_is)
    (case i_chance => k_is)
    (case k_chance => k_is)
    (case a_pairs_of => k_is)
    (case l_pairs_of => k_is)
    (case i_pairs_of => k_is)
    (case k_pairs_of => k_is)
    (case a_check_two => k_is)
    (case l_check_two => k_is)
    (case i_check_two => k_is)
    (case k_check_two => k_is)
    (case a_apart => k_is)
    (case l_apart => k_is)
    (case i_apart => k_is)
    (case k_apart => k_is)
    (case a_takes_apart => k_is)
    (case l_takes_apart => k_is)
    (case i_takes_apart => k_is)
    (case k_takes_apart => k_is)
    (case a__law_begin => k_is)
    (case l__law_begin => k_is)
    (case i__law_begin => k_is)
    (case k__law_begin => k_is)
    (case a__law_take => k_is)
    (case l__law_take => k_is)
    (case i__law_take => k_is)
    (case k__law_take => k_is)
    (case a__law_rows => k_is)
    (case l__law_rows => k_is)
    (case i__law_rows => k_is)
    (case k__law_rows => k_is)
    (case a__law_part1 => k_is)
    (case l__law_part1 => k_is)
    (case i__law_part1 => k_is)
    (case k__law_part1 => k_is)
    (case a_law => k_is)
    (case l_law => k_is)
    (case i_law => k_is)
    (case k_law => k_is)
    (case z_abs => k_is)
    (case z_all => k_is)
    (case z_any => k_is)
    (case z_enumerate => k_is)
    (case z_int => k_is)
    (case z_len => k_is)
    (case z_list => k_is)
    (case z_max => k_is)
    (case z_min => k_is)
    (case z_range => k_is)
    (case z_set => k_is)
    (case z_sorted => k_is)
    (case z_sum => k_is)
    (case z_tuple => k_is)
    (case y_MOST_MENDINGS => k_is)
    (case y_MOST_ROWS => k_is)
    case fin =>
      have e := hmg.symm.trans D.g_law
      cases e
      exact ⟨_, D.x_law, fun base _ _ => K69.ok_law D⟩
