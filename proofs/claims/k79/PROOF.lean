import PyProof.Rows.All
import Wide.All
import OpenK.AllK
import Wide.FinOn
import HandS.ForMost
import HandS.Wide
import HandS.Flow
import HandS.SortInts
import HandS.IsInst
import HandS.Gcd
import KE.KMathGC
import KE.OsSort
import PyProof.ReprRoads
import HandS.Set
import HandS.SetBool
import HandS.Star
import HandS.Style
import PySem.Challenge.RW_kerbcall_k79_where_books_are_dearer
set_option Elab.async false
set_option linter.all false
set_option maxRecDepth 100000
set_option maxHeartbeats 4000000
namespace Y
open PySem PySem.Spec PyProof.Rows L2
/-! ### data: what a program's values are worth -/
inductive D where
  | non | bl (b : Bool) | int (i : Int) | str (s : Str)
  | lst (xs : List D) | rls (xs : List D) | tup (xs : List D)
  | obj (c : Nat) (fs : List (Str × D)) | loc (i : Nat)
/-- what stands in a place of the store: a list, an instance, a dict that may change -/
inductive MO where
  | lst (xs : List D) | obj (c : Nat) (fs : List (Str × D)) | dct (kvs : List (Key × D)) | dead
section
variable (K : PySem.W.Frag) (cl : Nat → Addr) (T : List Addr) (B : Hp)
inductive Rep : V → D → Prop where
  | non : Rep .non .non
  | bl (b : Bool) : Rep (.bl b) (.bl b)
  | int (i : Int) : Rep (.int i) (.int i)
  | str (s : Str) : Rep (.str s) (.str s)
  | lst {a : Addr} {vs : List V} {ds : List D} : B a = some (.lst vs) → vs.length = ds.length → (∀ (i : Nat) v d, vs[i]? = some v → ds[i]? = some d → Rep v d) → Rep (.ref a) (.lst ds)
  | rls {a : Addr} {vs : List V} {ds : List D} : SqL K B a vs → vs.length = ds.length → (∀ (i : Nat) v d, vs[i]? = some v → ds[i]? = some d → Rep v d) → Rep (.ref a) (.rls ds)
  | tup {a : Addr} {vs : List V} {ds : List D} : SqT K B a vs → vs.length = ds.length → (∀ (i : Nat) v d, vs[i]? = some v → ds[i]? = some d → Rep v d) → Rep (.ref a) (.tup ds)
  | obj {a dx : Addr} {c : Nat} {vf : List (Str × V)} {fs : List (Str × D)} : B a = some (.ins (cl c) dx vf) → vf.map (·.1) = fs.map (·.1) → (∀ (i : Nat) v d, (vf.map (·.2))[i]? = some v → (fs.map (·.2))[i]? = some d → Rep v d) → Rep (.ref a) (.obj c fs)
  | loc {i : Nat} {a : Addr} : T[i]? = some a → Rep (.ref a) (.loc i)
structure Reps (vs : List V) (ds : List D) : Prop where
  len : vs.length = ds.length
  get : ∀ (i : Nat) v d, vs[i]? = some v → ds[i]? = some d → Rep K cl T B v d
structure RepF (vf : List (Str × V)) (fs : List (Str × D)) : Prop where
  keys : vf.map (·.1) = fs.map (·.1)
  vals : Reps K cl T B (vf.map (·.2)) (fs.map (·.2))
/-- the slots -/
structure Sl (σ : List (Option V)) (ρ : List (Option D)) : Prop where
  len : σ.length = ρ.length
  get : ∀ (i : Nat) d, ρ[i]? = some (some d) → ∃ v, σ[i]? = some (some v) ∧ Rep K cl T B v d
def RepM (o : HO) : MO → Prop
  | .lst ds => ∃ vs, o = .lst vs ∧ Reps K cl T B vs ds
  | .obj c fs => ∃ dx vf, o = .ins (cl c) dx vf ∧ RepF K cl T B vf fs
  | .dct kvs => ∃ kv : List (Key × V), o = .dK kv ∧ kv.map (·.1) = kvs.map (·.1) ∧ Reps K cl T B (kv.map (·.2)) (kvs.map (·.2))
  | .dead => False
structure StOk (H : Hp) (M : List MO) : Prop where
  ex : Same B H
  len : T.length = M.length
  nd : T.Nodup
  cell : ∀ (i : Nat) a m, T[i]? = some a → M[i]? = some m → (m = .dead ∧ ∃ o, H a = some o) ∨ (B a = none ∧ ∃ o, H a = some o ∧ RepM K cl T B o m)
end
/-- what may have become of the heap -/
structure Tr (T : List Addr) (B H : Hp) (T' : List Addr) (B' H' : Hp) : Prop where
  pre : T <+: T'
  exB : Same B B'
  fr : ∀ a o, H a = some o → a ∉ T → H' a = some o ∧ a ∉ T' ∧ (B a = none → B' a = none)
theorem same_sqt {K : PySem.W.Frag} {H H' : Hp} {a : Addr} {xs : List V} (e : Same H H') (h : SqT K H a xs) : SqT K H' a xs := by
  rcases h with (h | ⟨o, h⟩) | h
  · exact .inl (.inl (e _ _ h))
  · exact .inl (.inr ⟨o, e _ _ h⟩)
  · exact .inr h
theorem pre_get {α : Type} {l l' : List α} (h : l <+: l') {i : Nat} {a : α} (e : l[i]? = some a) : l'[i]? = some a := by
  obtain ⟨r, rfl⟩ := h
  rw [List.getElem?_append_left (List.getElem?_eq_some_iff.mp e).1]
  exact e
section
variable {K : PySem.W.Frag} {cl : Nat → Addr} {T T' T2 : List Addr} {B B' B2 H H' H2 : Hp} {v : V} {d : D} {vs : List V} {ds : List D} {M M' : List MO} {σ : List (Option V)} {ρ : List (Option D)}
theorem Rep.mono (r : Rep K cl T B v d) (p : T <+: T') (e : Same B B') : Rep K cl T' B' v d := by
  induction r with
  | non => exact .non
  | bl b => exact .bl b
  | int i => exact .int i
  | str s => exact .str s
  | lst h l _ ih => exact .lst (e _ _ h) l ih
  | rls h l _ ih => exact .rls (e.seq h) l ih
  | tup h l _ ih => exact .tup (same_sqt e h) l ih
  | obj h l _ ih => exact .obj (e _ _ h) l ih
  | loc h => exact .loc (pre_get p h)
theorem Reps.mono (r : Reps K cl T B vs ds) (p : T <+: T') (e : Same B B') : Reps K cl T' B' vs ds := ⟨r.len, fun i v d h h' => (r.get i v d h h').mono p e⟩
theorem RepF.mono {vf : List (Str × V)} {fs : List (Str × D)} (r : RepF K cl T B vf fs) (p : T <+: T') (e : Same B B') : RepF K cl T' B' vf fs := ⟨r.keys, r.vals.mono p e⟩
theorem Sl.mono (r : Sl K cl T B σ ρ) (p : T <+: T') (e : Same B B') : Sl K cl T' B' σ ρ := ⟨r.len, fun i d h => by
  obtain ⟨v, h1, h2⟩ := r.get i d h
  exact ⟨v, h1, h2.mono p e⟩⟩
theorem RepM.mono {o : HO} {m : MO} (r : RepM K cl T B o m) (p : T <+: T') (e : Same B B') : RepM K cl T' B' o m := by
  cases m with
  | lst ds => obtain ⟨vs, h, r⟩ := r; exact ⟨vs, h, r.mono p e⟩
  | obj c fs => obtain ⟨dx, vf, h, r⟩ := r; exact ⟨dx, vf, h, r.mono p e⟩
  | dct kvs => obtain ⟨kv, h, k, r⟩ := r; exact ⟨kv, h, k, r.mono p e⟩
  | dead => exact r.elim
theorem Reps.nil : Reps K cl T B [] [] := ⟨rfl, fun i v d h => by simp at h⟩
theorem Reps.cons (h : Rep K cl T B v d) (r : Reps K cl T B vs ds) : Reps K cl T B (v :: vs) (d :: ds) := ⟨by simp [r.len], fun i w e h1 h2 => by
  cases i with
  | zero => simp at h1 h2; subst h1; subst h2; exact h
  | succ i => simp at h1 h2; exact r.get i _ _ h1 h2⟩
theorem Reps.cons_inv (r : Reps K cl T B vs (d :: ds)) : ∃ v vr, vs = v :: vr ∧ Rep K cl T B v d ∧ Reps K cl T B vr ds := by
  cases vs with
  | nil => have := r.len; simp at this
  | cons v vr => exact ⟨v, vr, rfl, r.get 0 _ _ rfl rfl, ⟨by simpa using r.len, fun i w e h1 h2 => r.get (i + 1) w e (by simpa using h1) (by simpa using h2)⟩⟩
theorem Reps.nil_inv (r : Reps K cl T B vs []) : vs = [] := List.eq_nil_of_length_eq_zero (by simpa using r.len)
theorem Reps.at (r : Reps K cl T B vs ds) {i : Nat} {d : D} (h : ds[i]? = some d) : ∃ v, vs[i]? = some v ∧ Rep K cl T B v d := by
  have hi : i < vs.length := by rw [r.len]; exact (List.getElem?_eq_some_iff.mp h).1
  exact ⟨vs[i], List.getElem?_eq_getElem hi, r.get i _ _ (List.getElem?_eq_getElem hi) h⟩
theorem Reps.atV (r : Reps K cl T B vs ds) {i : Nat} {v : V} (h : vs[i]? = some v) : ∃ d, ds[i]? = some d ∧ Rep K cl T B v d := by
  have hi : i < ds.length := by rw [← r.len]; exact (List.getElem?_eq_some_iff.mp h).1
  exact ⟨ds[i], List.getElem?_eq_getElem hi, r.get i _ _ h (List.getElem?_eq_getElem hi)⟩
theorem Reps.append {ws : List V} {es : List D} (r : Reps K cl T B vs ds) (s : Reps K cl T B ws es) : Reps K cl T B (vs ++ ws) (ds ++ es) := ⟨by simp [r.len, s.len], fun i v d h1 h2 => by
  by_cases hi : i < vs.length
  · rw [List.getElem?_append_left hi] at h1
    rw [List.getElem?_append_left (by rw [← r.len]; exact hi)] at h2
    exact r.get i _ _ h1 h2
  · rw [List.getElem?_append_right (by omega)] at h1
    rw [List.getElem?_append_right (by rw [← r.len]; omega), ← r.len] at h2
    exact s.get _ _ _ h1 h2⟩
theorem Reps.take (n : Nat) (r : Reps K cl T B vs ds) : Reps K cl T B (vs.take n) (ds.take n) := ⟨by simp [r.len], fun i v d h1 h2 => by
  rw [List.getElem?_take] at h1 h2
  by_cases hi : i < n
  · rw [if_pos hi] at h1 h2
    exact r.get i _ _ h1 h2
  · rw [if_neg hi] at h1; cases h1⟩
theorem Reps.drop (n : Nat) (r : Reps K cl T B vs ds) : Reps K cl T B (vs.drop n) (ds.drop n) := ⟨by simp [r.len], fun i v d h1 h2 => by
  rw [List.getElem?_drop] at h1 h2
  exact r.get _ _ _ h1 h2⟩
theorem Reps.set (i : Nat) (h : Rep K cl T B v d) (r : Reps K cl T B vs ds) : Reps K cl T B (vs.set i v) (ds.set i d) := ⟨by simp [r.len], fun j w e h1 h2 => by
  by_cases hj : i = j
  · subst hj
    rw [List.getElem?_set] at h1 h2
    simp at h1 h2
    obtain ⟨_, rfl⟩ := h1
    obtain ⟨_, rfl⟩ := h2
    exact h
  · rw [List.getElem?_set_ne hj] at h1 h2
    exact r.get j _ _ h1 h2⟩
theorem Reps.eraseIdx (k : Nat) (r : Reps K cl T B vs ds) : Reps K cl T B (vs.eraseIdx k) (ds.eraseIdx k) := by
  rw [List.eraseIdx_eq_take_drop_succ, List.eraseIdx_eq_take_drop_succ]
  exact (r.take k).append (r.drop (k + 1))
theorem Reps.reverse (r : Reps K cl T B vs ds) : Reps K cl T B vs.reverse ds.reverse := ⟨by simp [r.len], fun i v d h1 h2 => by
  have hi : i < vs.length := by have := (List.getElem?_eq_some_iff.mp h1).1; simpa using this
  rw [List.getElem?_reverse hi] at h1
  rw [List.getElem?_reverse (by rw [← r.len]; exact hi), ← r.len] at h2
  exact r.get _ _ _ h1 h2⟩
/-! ### the ways a heap goes -/
theorem Tr.refl : Tr T B H T B H := ⟨List.prefix_refl _, Same.refl _, fun a o h n => ⟨h, n, id⟩⟩
theorem Tr.trans (a : Tr T B H T' B' H') (b : Tr T' B' H' T2 B2 H2) : Tr T B H T2 B2 H2 := ⟨a.pre.trans b.pre, a.exB.trans b.exB, fun x o h n => by
  obtain ⟨h1, n1, z1⟩ := a.fr x o h n
  obtain ⟨h2, n2, z2⟩ := b.fr x o h1 n1
  exact ⟨h2, n2, fun z => z2 (z1 z)⟩⟩
theorem Rep.tr (r : Rep K cl T B v d) (t : Tr T B H T' B' H') : Rep K cl T' B' v d := r.mono t.pre t.exB
theorem Reps.tr (r : Reps K cl T B vs ds) (t : Tr T B H T' B' H') : Reps K cl T' B' vs ds := r.mono t.pre t.exB
theorem Sl.tr (r : Sl K cl T B σ ρ) (t : Tr T B H T' B' H') : Sl K cl T' B' σ ρ := r.mono t.pre t.exB
theorem StOk.has (s : StOk K cl T B H M) {a : Addr} (h : a ∈ T) : ∃ o, H a = some o := by
  obtain ⟨i, hi⟩ := List.mem_iff_getElem?.mp h
  have hl : i < M.length := by rw [← s.len]; exact (List.getElem?_eq_some_iff.mp hi).1
  rcases s.cell i a M[i] hi (List.getElem?_eq_getElem hl) with ⟨_, o, h2⟩ | ⟨h1, o, h2, _⟩
  · exact ⟨o, h2⟩
  · exact ⟨o, h2⟩
theorem StOk.live (s : StOk K cl T B H M) {i : Nat} {a : Addr} {m : MO} (h : T[i]? = some a) (e : M[i]? = some m) (hm : m ≠ .dead := by exact nofun) : B a = none ∧ ∃ o, H a = some o ∧ RepM K cl T B o m :=
  (s.cell i a m h e).resolve_left fun z => hm z.1
theorem StOk.notin (s : StOk K cl T B H M) {p : Addr} (h : H p = none) : p ∉ T := fun hp => by
  obtain ⟨o, e⟩ := s.has hp
  rw [h] at e; cases e
/-- a new object that will not change -/
theorem StOk.alloc (s : StOk K cl T B H M) {p : Addr} (h : H p = none) (o : HO) : Tr T B H T (upd B p o) (upd H p o) ∧ StOk K cl T (upd B p o) (upd H p o) M := by
  have hb : B p = none := s.ex.free h
  have e1 : Same B (upd B p o) := fun a u q => by rw [upd_ne (ne_of_none q hb)]; exact q
  refine ⟨⟨List.prefix_refl _, e1, fun a u q n => ?_⟩, ⟨fun a u q => ?_, s.len, s.nd, fun i a m h1 h2 => ?_⟩⟩
  · have ne := ne_of_none q h
    rw [upd_ne ne, upd_ne ne]
    exact ⟨q, n, id⟩
  · by_cases ha : a = p
    · subst ha; rw [upd_same] at q ⊢; exact q
    · rw [upd_ne ha] at q ⊢; exact s.ex a u q
  · rcases s.cell i a m h1 h2 with ⟨c0, u, c2⟩ | ⟨c1, u, c2, c3⟩
    · rw [upd_ne (ne_of_none c2 h)]
      exact .inl ⟨c0, u, c2⟩
    · have ne := ne_of_none c2 h
      rw [upd_ne ne, upd_ne ne]
      exact .inr ⟨c1, u, c2, c3.mono (List.prefix_refl _) e1⟩
/-- a new object that may change -/
theorem StOk.new (s : StOk K cl T B H M) {p : Addr} (h : H p = none) {o : HO} {m : MO} (r : RepM K cl T B o m) : Tr T B H (T ++ [p]) B (upd H p o) ∧ StOk K cl (T ++ [p]) B (upd H p o) (M ++ [m]) := by
  have hb : B p = none := s.ex.free h
  have hp := s.notin h
  refine ⟨⟨List.prefix_append _ _, Same.refl _, fun a u q n => ?_⟩, ⟨fun a u q => ?_, by simp [s.len], ?_, fun i a m' h1 h2 => ?_⟩⟩
  · have ne := ne_of_none q h
    rw [upd_ne ne]
    exact ⟨q, by simp [n, ne], id⟩
  · rw [upd_ne (ne_of_none q hb)]; exact s.ex a u q
  · rw [List.nodup_append]
    exact ⟨s.nd, by simp, fun a ha b hb' e => by simp at hb'; subst hb'; subst e; exact hp ha⟩
  · by_cases hi : i < T.length
    · rw [List.getElem?_append_left hi] at h1
      rw [List.getElem?_append_left (by rw [← s.len]; exact hi)] at h2
      rcases s.cell i a m' h1 h2 with ⟨c0, u, c2⟩ | ⟨c1, u, c2, c3⟩
      · rw [upd_ne (ne_of_none c2 h)]
        exact .inl ⟨c0, u, c2⟩
      · rw [upd_ne (ne_of_none c2 h)]
        exact .inr ⟨c1, u, c2, c3.mono (List.prefix_append _ _) (Same.refl _)⟩
    · rw [List.getElem?_append_right (by omega)] at h1
      rw [List.getElem?_append_right (by rw [← s.len]; omega), ← s.len] at h2
      cases hj : i - T.length with
      | zero =>
        rw [hj] at h1 h2
        simp at h1 h2
        subst h1; subst h2
        exact .inr ⟨hb, o, upd_same, r.mono (List.prefix_append _ _) (Same.refl _)⟩
      | succ j => rw [hj] at h1; simp at h1
/-- an object of the store changes -/
theorem StOk.put (s : StOk K cl T B H M) {i : Nat} {a : Addr} (ha : T[i]? = some a) (hb : B a = none) {o : HO} {m : MO} (r : RepM K cl T B o m) : Tr T B H T B (upd H a o) ∧ StOk K cl T B (upd H a o) (M.set i m) := by
  have hm : a ∈ T := List.mem_of_getElem? ha
  refine ⟨⟨List.prefix_refl _, Same.refl _, fun x u q n => ?_⟩, ⟨fun x u q => ?_, by simp [s.len], s.nd, fun j x m' h1 h2 => ?_⟩⟩
  · rw [upd_ne (fun e => n (by rw [e]; exact hm))]; exact ⟨q, n, id⟩
  · rw [upd_ne (ne_of_none q hb)]; exact s.ex x u q
  · by_cases hj : i = j
    · subst hj
      rw [ha] at h1; cases h1
      rw [List.getElem?_set] at h2
      simp at h2
      obtain ⟨_, rfl⟩ := h2
      exact .inr ⟨hb, o, upd_same, r⟩
    · rw [List.getElem?_set_ne hj] at h2
      have c := s.cell j x m' h1 h2
      have ne : x ≠ a := fun e => by
        subst e
        exact hj ((List.getElem?_inj (List.getElem?_eq_some_iff.mp ha).1 s.nd).mp (ha.trans h1.symm))
      rw [upd_ne ne]
      exact c
theorem Sl.set (r : Sl K cl T B σ ρ) (i : Nat) (h : Rep K cl T B v d) : Sl K cl T B (σ.set i (some v)) (ρ.set i (some d)) := ⟨by simp [r.len], fun j e he => by
  by_cases hj : i = j
  · subst hj
    rw [List.getElem?_set] at he ⊢
    have hl := r.len
    by_cases hi : i < ρ.length
    · rw [if_pos rfl, if_pos hi] at he
      cases he
      exact ⟨v, by rw [if_pos rfl, if_pos (by omega)], h⟩
    · rw [if_pos rfl, if_neg hi] at he; cases he
  · rw [List.getElem?_set_ne hj] at he ⊢
    exact r.get j e he⟩
end
end Y
set_option Elab.async false
set_option linter.all false
set_option maxRecDepth 100000
set_option maxHeartbeats 4000000
namespace Y
open PySem PySem.Spec PyProof.Rows L2
abbrev Rho := List (Option D)
abbrev Sto := List MO
abbrev EE := Rho → Sto → Option (D × Sto)
abbrev ET := Rho → Sto → Option (Bool × Sto)
abbrev EA := Rho → Sto → Option (List D × Sto)
abbrev EO := Rho → Sto → Option (Option Int × Sto)
/-- what a walked thing walks: a place of the store whose list must stay, the items -/
abbrev Src := Option (Nat × List D)
abbrev EI := Rho → Sto → Option ((Src × List D) × Sto)
abbrev EG := D → Rho → Sto → Option (Rho × Sto)
abbrev EGs := List D → Rho → Sto → Option (Rho × Sto)
section
variable (K : PySem.W.Frag) (cl : Nat → Addr)
def EvE (t : TE) (F : EE) : Prop := ∀ T B H σ ρ M d M' (Q : VK), StOk K cl T B H M → Sl K cl T B σ ρ → F ρ M = some (d, M') →
  (∀ v T' B' H', Tr T B H T' B' H' → StOk K cl T' B' H' M' → Rep K cl T' B' v d → Q v H') → t σ H Q
def EvT (t : TT) (F : ET) : Prop := ∀ T B H σ ρ M b M' (Q : Bool → Hp → Prop), StOk K cl T B H M → Sl K cl T B σ ρ → F ρ M = some (b, M') →
  (∀ T' B' H', Tr T B H T' B' H' → StOk K cl T' B' H' M' → Q b H') → t σ H Q
def EvA (t : TA) (F : EA) : Prop := ∀ T B H σ ρ M ds M' (Q : List V → Hp → Prop), StOk K cl T B H M → Sl K cl T B σ ρ → F ρ M = some (ds, M') →
  (∀ vs T' B' H', Tr T B H T' B' H' → StOk K cl T' B' H' M' → Reps K cl T' B' vs ds → Q vs H') → t σ H Q
def EvO (t : TO) (F : EO) : Prop := ∀ T B H σ ρ M o M' (Q : Option Int → Hp → Prop), StOk K cl T B H M → Sl K cl T B σ ρ → F ρ M = some (o, M') →
  (∀ T' B' H', Tr T B H T' B' H' → StOk K cl T' B' H' M' → Q o H') → t σ H Q
/-- an expression that makes a new list -/
def EvL (t : TE) (F : EA) : Prop := ∀ T B H σ ρ M ds M' (Q : VK), StOk K cl T B H M → Sl K cl T B σ ρ → F ρ M = some (ds, M') →
  (∀ p vs T' B' H', H' p = none → Tr T B H T' B' H' → StOk K cl T' B' H' M' → Reps K cl T' B' vs ds → ∀ H2, (∀ a, a ≠ p → H2 a = H' a) → H2 p = some (.lst vs) → Q (.ref p) H2) → t σ H Q
/-- an operator on two values; a call on values -/
def OpOk (r : R2) (f : Sto → D → D → Option D) : Prop := ∀ T B H M x y a b d (Q : VK), StOk K cl T B H M → Rep K cl T B x a → Rep K cl T B y b → f M a b = some d →
  (∀ v T' B' H', Tr T B H T' B' H' → StOk K cl T' B' H' M → Rep K cl T' B' v d → Q v H') → r x y H Q
def UnOk (r : V → Hp → VK → Prop) (f : D → Option D) : Prop := ∀ T B H M x a d (Q : VK), StOk K cl T B H M → Rep K cl T B x a → f a = some d →
  (∀ v T' B' H', Tr T B H T' B' H' → StOk K cl T' B' H' M → Rep K cl T' B' v d → Q v H') → r x H Q
def CaOk (r : List V → Hp → VK → Prop) (f : Sto → List D → Option D) : Prop := ∀ T B H M vs ds d (Q : VK), StOk K cl T B H M → Reps K cl T B vs ds → f M ds = some d →
  (∀ v T' B' H', Tr T B H T' B' H' → StOk K cl T' B' H' M → Rep K cl T' B' v d → Q v H') → r vs H Q
end
section
variable (X : Cx) (K : PySem.W.Frag) (cl : Nat → Addr)
structure SdE (e : Expr) (t : TE) (F : EE) : Prop where
  k : X.K = K
  pe : PE X e t
  ev : EvE K cl t F
structure SdL (e : Expr) (t : TE) (F : EA) : Prop where
  k : X.K = K
  pe : PE X e t
  ev : EvL K cl t F
structure SdT (e : Expr) (t : TT) (F : ET) : Prop where
  k : X.K = K
  pe : PT X e t
  ev : EvT K cl t F
structure SdW (e : Expr) (t : TT) (F : ET) : Prop where
  k : X.K = K
  pe : PW X e t
  ev : EvT K cl t F
structure SdA (es : List Expr) (t : TA) (F : EA) : Prop where
  k : X.K = K
  pe : PA X es t
  ev : EvA K cl t F
structure SdO (e : Option Expr) (t : TO) (F : EO) : Prop where
  k : X.K = K
  pe : PO X e t
  ev : EvO K cl t F
end
/-! ### reading a place of the store -/
def rd (M : Sto) : D → D
  | .loc i => match M[i]? with
    | some (.lst xs) => .lst xs
    | _ => .loc i
  | d => d
section
variable {K : PySem.W.Frag} {cl : Nat → Addr} {T T' : List Addr} {B B' H H' : Hp} {v x y : V} {d a b : D} {vs : List V} {ds xs : List D} {M M' : Sto} {σ : List (Option V)} {ρ : Rho} {Q : VK}
theorem rd_loc {i : Nat} (h : M[i]? = some (.lst xs)) : rd M (.loc i) = .lst xs := by simp only [rd, h]
theorem rd_cases (M : Sto) (a : D) : rd M a = a ∨ ∃ i xs, a = .loc i ∧ M[i]? = some (.lst xs) ∧ rd M a = .lst xs := by
  cases a with
  | loc i =>
    cases h : M[i]? with
    | none => exact .inl (by simp only [rd, h])
    | some m =>
      cases m with
      | lst xs => exact .inr ⟨i, xs, rfl, h, by simp only [rd, h]⟩
      | obj c fs => exact .inl (by simp only [rd, h])
      | dct kvs => exact .inl (by simp only [rd, h])
      | dead => exact .inl (by simp only [rd, h])
  | _ => exact .inl rfl
theorem rd_rep (r : Rep K cl T B x a) (h : rd M a = d) (hd : ∀ xs, d ≠ .lst xs) : Rep K cl T B x d := by
  rcases rd_cases M a with e | ⟨i, xs, e1, e2, e3⟩
  · rw [← h, e]; exact r
  · exact absurd (h.symm.trans e3) (hd xs)
theorem StOk.loc (s : StOk K cl T B H M) {i : Nat} {p : Addr} {m : MO} (h : T[i]? = some p) (e : M[i]? = some m) (hm : m ≠ .dead := by exact nofun) : ∃ o, H p = some o ∧ RepM K cl T B o m := (s.live h e hm).2
theorem rd_lst (s : StOk K cl T B H M) (r : Rep K cl T B x a) (h : rd M a = .lst xs) : ∃ p vs, x = .ref p ∧ H p = some (.lst vs) ∧ Reps K cl T B vs xs := by
  rcases rd_cases M a with e | ⟨i, ys, e1, e2, e3⟩
  · rw [e] at h; subst h
    cases r with
    | lst h l g => exact ⟨_, _, rfl, s.ex _ _ h, ⟨l, g⟩⟩
  · rw [e3] at h; cases h
    subst e1
    cases r with
    | loc hl =>
      obtain ⟨o, h1, vs, rfl, h3⟩ := s.loc hl e2
      exact ⟨_, vs, rfl, h1, h3⟩
def isSq : D → Option (List D)
  | .lst xs => some xs
  | .rls xs => some xs
  | _ => none
theorem rd_sq (s : StOk K cl T B H M) (r : Rep K cl T B x a) (h : isSq (rd M a) = some xs) : ∃ p vs, x = .ref p ∧ SqL K H p vs ∧ Reps K cl T B vs xs := by
  cases e : rd M a with
  | lst ys =>
    rw [e] at h; cases h
    obtain ⟨p, vs, e1, e2, e3⟩ := rd_lst s r e
    exact ⟨p, vs, e1, .of e2, e3⟩
  | rls ys =>
    rw [e] at h; cases h
    cases rd_rep r e (fun _ => nofun) with
    | rls h l g => exact ⟨_, _, rfl, s.ex.seq h, ⟨l, g⟩⟩
  | _ => rw [e] at h; cases h
theorem rd_tup (s : StOk K cl T B H M) (r : Rep K cl T B x a) (h : rd M a = .tup xs) : ∃ p vs, x = .ref p ∧ SqT K H p vs ∧ Reps K cl T B vs xs := by
  cases rd_rep r h (fun _ => nofun) with
  | tup h l g => exact ⟨_, _, rfl, same_sqt s.ex h, ⟨l, g⟩⟩
theorem rd_int {i : Int} (r : Rep K cl T B x a) (h : rd M a = .int i) : x = .int i := by
  cases rd_rep r h (fun _ => nofun) with
  | int i => rfl
theorem rd_str {z : Str} (r : Rep K cl T B x a) (h : rd M a = .str z) : x = .str z := by
  cases rd_rep r h (fun _ => nofun) with
  | str i => rfl
/-! ### how a reading ends -/
abbrev Kon (K : PySem.W.Frag) (cl : Nat → Addr) (T : List Addr) (B H : Hp) (M : Sto) (d : D) (Q : VK) : Prop := ∀ v T' B' H', Tr T B H T' B' H' → StOk K cl T' B' H' M → Rep K cl T' B' v d → Q v H'
theorem kon0 (s : StOk K cl T B H M) (k : Kon K cl T B H M d Q) (r : Rep K cl T B v d) : Q v H := k _ _ _ _ .refl s r
theorem kon_lst (s : StOk K cl T B H M) (k : Kon K cl T B H M (.lst ds) Q) (r : Reps K cl T B vs ds) {p : Addr} (h : H p = none) : Q (.ref p) (upd H p (.lst vs)) := by
  obtain ⟨t, s'⟩ := s.alloc h (.lst vs)
  exact k _ _ _ _ t s' (.lst upd_same r.len (fun i v d a b => (r.get i v d a b).tr t))
theorem kon_tup (s : StOk K cl T B H M) (k : Kon K cl T B H M (.tup ds) Q) (r : Reps K cl T B vs ds) {p : Addr} (h : H p = none) : Q (.ref p) (upd H p (.tup vs)) := by
  obtain ⟨t, s'⟩ := s.alloc h (.tup vs)
  exact k _ _ _ _ t s' (.tup (.of upd_same) r.len (fun i v d a b => (r.get i v d a b).tr t))
theorem lim_le {n : Nat} (h : n ≤ 1000000) : n ≤ sizeLine := Nat.le_trans h (by decide)
theorem lim_lt {n : Nat} (h : n ≤ 1000000) : n < sizeLine := Nat.lt_of_le_of_lt h (by decide)
end
/-! ### names, constants, operators -/
def eVar (i : Nat) : EE := fun ρ M => match ρ[i]? with
  | some (some d) => some (d, M)
  | _ => none
def eC (d : D) : EE := fun _ M => some (d, M)
def eBin (f : Sto → D → D → Option D) (A C : EE) : EE := fun ρ M => (A ρ M).bind fun p => (C ρ p.2).bind fun q => (f q.2 p.1 q.1).map fun d => (d, q.2)
def eUn (f : D → Option D) (A : EE) : EE := fun ρ M => (A ρ M).bind fun p => (f p.1).map fun d => (d, p.2)
def aNil : EA := fun _ M => some ([], M)
def aCons (A : EE) (C : EA) : EA := fun ρ M => (A ρ M).bind fun p => (C ρ p.2).map fun q => (p.1 :: q.1, q.2)
def eCa (f : Sto → List D → Option D) (A : EA) : EE := fun ρ M => (A ρ M).bind fun p => (f p.2 p.1).map fun d => (d, p.2)
theorem bind_eq {α β : Type} {o : Option α} {f : α → Option β} {b : β} (h : o.bind f = some b) : ∃ a, o = some a ∧ f a = some b := by
  cases o with
  | none => cases h
  | some a => exact ⟨a, rfl, h⟩
theorem map_eq {α β : Type} {o : Option α} {f : α → β} {b : β} (h : o.map f = some b) : ∃ a, o = some a ∧ f a = b := by
  cases o with
  | none => cases h
  | some a => exact ⟨a, rfl, Option.some.inj h⟩
section
variable {X : Cx} {K : PySem.W.Frag} {cl : Nat → Addr} {e e1 e2 : Expr} {es : List Expr} {t t1 t2 : TE} {ta : TA} {A C : EE} {Aa : EA} {pos : Pos}
theorem sd_var (i : Nat) {x : Str} (hN : X.N[i]? = some x := by rfl) (hv : Vis X.env.scope x := by first | exact Or.inl rfl | exact Or.inr (Or.inl rfl) | exact Or.inr (Or.inr rfl)) (hd : (x == ("__debug__" : Str)) = false := by decide)
    (hcd : (x == ("__classdict__" : Str)) = false := by decide) (hk : X.K = K := by rfl) : SdE X K cl (.Name x pos) (tVar i) (eVar i) := ⟨hk, pe_var hN hv hd hcd, fun T B H σ ρ M d M' Q s r h k => by
  unfold eVar at h
  cases q : ρ[i]? with
  | none => rw [q] at h; cases h
  | some o =>
    cases o with
    | none => rw [q] at h; cases h
    | some d' =>
      rw [q] at h; cases h
      obtain ⟨v, hv, rv⟩ := r.get i _ q
      exact ⟨v, hv, kon0 s k rv⟩⟩
theorem evC {v : V} {d : D} (h : ∀ T B, Rep K cl T B v d) : EvE K cl (tC v) (eC d) := fun T B H σ ρ M d' M' Q s r e k => by
  cases e
  exact kon0 s k (h _ _)
theorem sd_int {i : Int} {j : Nat} (hk : X.K = K := by rfl) : SdE X K cl (.Constant (.int i) j pos) (tC (.int i)) (eC (.int i)) := ⟨hk, pe_int, evC fun _ _ => .int i⟩
theorem sd_bl {b : Bool} {j : Nat} (hk : X.K = K := by rfl) : SdE X K cl (.Constant (.bool b) j pos) (tC (.bl b)) (eC (.bl b)) := ⟨hk, pe_bl, evC fun _ _ => .bl b⟩
theorem sd_non {j : Nat} (hk : X.K = K := by rfl) : SdE X K cl (.Constant .none j pos) (tC .non) (eC .non) := ⟨hk, pe_non, evC fun _ _ => .non⟩
theorem sd_str {x : Str} {j : Nat} (hk : X.K = K := by rfl) : SdE X K cl (.Constant (.str x) j pos) (tC (.str x)) (eC (.str x)) := ⟨hk, pe_str, evC fun _ _ => .str x⟩
/-- a module's constant that is an int -/
theorem sd_globI {x : Str} {i : Int} {tk : Tok} (hg : Gl X x) (hm : X.mg x = some (.int i tk)) (hd : (x == ("__debug__" : Str)) = false := by decide) (hk : X.K = K := by rfl) : SdE X K cl (.Name x pos) (tC (.int i)) (eC (.int i)) :=
  ⟨hk, pe_glob hg hm ⟨_, rfl⟩ hd, evC fun _ _ => .int i⟩
theorem EvE.bin {r : R2} {f : Sto → D → D → Option D} (hr : OpOk K cl r f) (ha : EvE K cl t1 A) (hb : EvE K cl t2 C) : EvE K cl (tOp r t1 t2) (eBin f A C) := fun T B H σ ρ M d M' Q s rr h k => by
  obtain ⟨p, hp, h⟩ := bind_eq h
  obtain ⟨q, hq, h⟩ := bind_eq h
  obtain ⟨d', hd, h⟩ := map_eq h
  cases h
  refine ha T B H σ ρ M p.1 p.2 _ s rr hp fun x T1 B1 H1 tr1 s1 r1 => ?_
  refine hb T1 B1 H1 σ ρ p.2 q.1 q.2 _ s1 (rr.tr tr1) hq fun y T2 B2 H2 tr2 s2 r2 => ?_
  exact hr T2 B2 H2 q.2 x y p.1 q.1 _ Q s2 (r1.tr tr2) r2 hd fun v T3 B3 H3 tr3 s3 r3 => k v T3 B3 H3 ((tr1.trans tr2).trans tr3) s3 r3
theorem sd_bin {op : Operator} {r : R2} {f : Sto → D → D → Option D} (ho : OpR X (binaryOp op) r) (hr : OpOk K cl r f) (ha : SdE X K cl e1 t1 A) (hb : SdE X K cl e2 t2 C) : SdE X K cl (.BinOp e1 op e2 pos) (tOp r t1 t2) (eBin f A C) :=
  ⟨ha.k, pe_op ho ha.pe hb.pe, ha.ev.bin hr hb.ev⟩
theorem sd_cmp {op : CmpOp} {r : R2} {f : Sto → D → D → Option D} (ho : OpR X (compareOp op) r) (hr : OpOk K cl r f) (ha : SdE X K cl e1 t1 A) (hb : SdE X K cl e2 t2 C) (hm : behindInMarks op e2 = false) : SdE X K cl (.Compare e1 [op] [e2] pos) (tOp r t1 t2) (eBin f A C) :=
  ⟨ha.k, pe_cmpR ho ha.pe hb.pe hm, ha.ev.bin hr hb.ev⟩
theorem EvE.un {r : V → Hp → VK → Prop} {f : D → Option D} (hr : UnOk K cl r f) (ha : EvE K cl t1 A) : EvE K cl (tUn r t1) (eUn f A) := fun T B H σ ρ M d M' Q s rr h k => by
  obtain ⟨p, hp, h⟩ := bind_eq h
  obtain ⟨d', hd, h⟩ := map_eq h
  cases h
  refine ha T B H σ ρ M p.1 p.2 _ s rr hp fun x T1 B1 H1 tr1 s1 r1 => ?_
  exact hr T1 B1 H1 p.2 x p.1 _ Q s1 r1 hd fun v T3 B3 H3 tr3 s3 r3 => k v T3 B3 H3 (tr1.trans tr3) s3 r3
theorem sd_un {op : UnaryOp} {r : V → Hp → VK → Prop} {f : D → Option D} (ho : UnR X (unaryOp op) r) (hr : UnOk K cl r f) (ha : SdE X K cl e1 t1 A) : SdE X K cl (.UnaryOp op e1 pos) (tUn r t1) (eUn f A) :=
  ⟨ha.k, pe_un ho ha.pe, ha.ev.un hr⟩
theorem sd_ix {r : R2} {f : Sto → D → D → Option D} (ho : IxR X r) (hr : OpOk K cl r f) (ha : SdE X K cl e1 t1 A) (hb : SdE X K cl e2 t2 C) (hs : PlainIx e2 := by intro _ _; rfl) : SdE X K cl (.Subscript e1 e2 pos) (tOp r t1 t2) (eBin f A C) :=
  ⟨ha.k, pe_ix ho ha.pe hb.pe hs, ha.ev.bin hr hb.ev⟩
theorem sa_nil (hk : X.K = K := by rfl) : SdA X K cl [] tNil aNil := ⟨hk, pa_nil, fun T B H σ ρ M ds M' Q s rr h k => by
  cases h
  exact k _ _ _ _ .refl s .nil⟩
theorem sa_cons (ha : SdE X K cl e t A) (hr : SdA X K cl es ta Aa) (hs : starEach (e :: es) X.env = (false, eval e X.env) :: starEach es X.env := by rfl) : SdA X K cl (e :: es) (tCons t ta) (aCons A Aa) := ⟨ha.k, pa_cons ha.pe hr.pe hs, fun T B H σ ρ M ds M' Q s rr h k => by
  obtain ⟨p, hp, h⟩ := bind_eq h
  obtain ⟨q, hq, h⟩ := map_eq h
  cases h
  refine ha.ev T B H σ ρ M p.1 p.2 _ s rr hp fun x T1 B1 H1 tr1 s1 r1 => ?_
  exact hr.ev T1 B1 H1 σ ρ p.2 q.1 q.2 _ s1 (rr.tr tr1) hq fun xs T2 B2 H2 tr2 s2 r2 => k _ _ _ _ (tr1.trans tr2) s2 (.cons (r1.tr tr2) r2)⟩
theorem EvA.ca {r : List V → Hp → VK → Prop} {f : Sto → List D → Option D} (hr : CaOk K cl r f) (ha : EvA K cl ta Aa) : EvE K cl (tCB r ta) (eCa f Aa) := fun T B H σ ρ M d M' Q s rr h k => by
  obtain ⟨p, hp, h⟩ := bind_eq h
  obtain ⟨d', hd, h⟩ := map_eq h
  cases h
  refine ha T B H σ ρ M p.1 p.2 _ s rr hp fun vs T1 B1 H1 tr1 s1 r1 => ?_
  exact hr T1 B1 H1 p.2 vs p.1 _ Q s1 r1 hd fun v T3 B3 H3 tr3 s3 r3 => k v T3 B3 H3 (tr1.trans tr3) s3 r3
theorem sd_callB {id : String} {x : Str} {p : Pos} {r : List V → Hp → VK → Prop} {f : Sto → List D → Option D} (hc : CallR X (.builtin id) r) (hr : CaOk K cl r f) (hg : Gl X x) (hm : X.mg x = none) (hv : bootBuiltins x = some (.builtin id)) (ha : SdA X K cl (e :: es) ta Aa)
    (hn : x ≠ "__name__" := by decide) (hdb : (x == ("__debug__" : Str)) = false := by decide) (he : starEach (e :: es) X.env = (false, eval e X.env) :: starEach es X.env := by rfl) (hpl : (backTo pos (starEach es X.env)).any (·.1) = false := by rfl) :
    SdE X K cl (.Call (.Name x p) (e :: es) [] pos) (tCB r ta) (eCa f Aa) := ⟨ha.k, pe_callB hc hg hm hv ha.pe hn hdb he hpl, EvA.ca hr ha.ev⟩
theorem sd_callTy {Ty : String} {x : Str} {p : Pos} {r : List V → Hp → VK → Prop} {f : Sto → List D → Option D} (hc : CallR X (.type Ty) r) (hr : CaOk K cl r f) (hg : Gl X x) (hm : X.mg x = none) (hv : bootBuiltins x = some (.type Ty)) (ha : SdA X K cl (e :: es) ta Aa)
    (hn : x ≠ "__name__" := by decide) (hdb : (x == ("__debug__" : Str)) = false := by decide) (he : starEach (e :: es) X.env = (false, eval e X.env) :: starEach es X.env := by rfl) (hpl : (backTo pos (starEach es X.env)).any (·.1) = false := by rfl) :
    SdE X K cl (.Call (.Name x p) (e :: es) [] pos) (tCB r ta) (eCa f Aa) := ⟨ha.k, pe_callTy hc hg hm hv ha.pe hn hdb he hpl, EvA.ca hr ha.ev⟩
end
end Y
set_option Elab.async false
set_option linter.all false
set_option maxRecDepth 100000
set_option maxHeartbeats 4000000
namespace Y
open PySem PySem.Spec PyProof.Rows L2
/-! ### operators on data -/
def oAdd (M : Sto) (a b : D) : Option D := match rd M a, rd M b with
  | .int i, .int j => some (.int (i + j))
  | .str i, .str j => if i.length + j.length ≤ 1000000 then some (.str (i ++ j)) else none
  | .lst xs, .lst ys => if xs.length + ys.length ≤ 1000000 then some (.lst (xs ++ ys)) else none
  | _, _ => none
def oSub (_ : Sto) (a b : D) : Option D := match a, b with
  | .int i, .int j => some (.int (i - j))
  | _, _ => none
def mulOk (i j : Int) : Bool := (decide (-(2 ^ 64) < i) && decide (i < 2 ^ 64)) || (decide (-(2 ^ 64) < j) && decide (j < 2 ^ 64))
def oMul (_ : Sto) (a b : D) : Option D := match a, b with
  | .int i, .int j => if mulOk i j = true then some (.int (i * j)) else none
  | _, _ => none
def oFdiv (_ : Sto) (a b : D) : Option D := match a, b with
  | .int i, .int j => if j ≠ 0 ∧ j.natAbs < 1073741824 then some (.int (i.fdiv j)) else none
  | _, _ => none
def oMod (_ : Sto) (a b : D) : Option D := match a, b with
  | .int i, .int j => if j ≠ 0 then some (.int (i.fmod j)) else none
  | _, _ => none
def oPow (_ : Sto) (a b : D) : Option D := match a, b with
  | .int i, .int j => if 0 ≤ j ∧ j ≤ 1000000 ∧ i.natAbs < 2 ^ 64 then some (.int (i ^ j.toNat)) else none
  | _, _ => none
def oNeg : D → Option D
  | .int i => some (.int (-i))
  | _ => none
def oLt (_ : Sto) (a b : D) : Option D := match a, b with
  | .int i, .int j => some (.bl (decide (i < j)))
  | _, _ => none
def oLe (_ : Sto) (a b : D) : Option D := match a, b with
  | .int i, .int j => some (.bl (decide (i ≤ j)))
  | _, _ => none
def oGt (_ : Sto) (a b : D) : Option D := match a, b with
  | .int i, .int j => some (.bl (decide (j < i)))
  | _, _ => none
def oGe (_ : Sto) (a b : D) : Option D := match a, b with
  | .int i, .int j => some (.bl (decide (j ≤ i)))
  | _, _ => none
/-- == of scalars -/
def scalD : D → D → Option Bool
  | .non, .non => some true
  | .int i, .int j => some (decide (i = j))
  | .bl i, .bl j => some (decide (i = j))
  | .str i, .str j => some (decide (i = j))
  | .non, .int _ => some false | .int _, .non => some false | .non, .bl _ => some false | .bl _, .non => some false
  | .non, .str _ => some false | .str _, .non => some false | .int _, .str _ => some false | .str _, .int _ => some false
  | _, _ => none
def oEq (_ : Sto) (a b : D) : Option D := (scalD a b).map .bl
def oNe (_ : Sto) (a b : D) : Option D := (scalD a b).map fun k => .bl (!k)
def isNon : D → Bool
  | .non => true
  | _ => false
def oIsN (_ : Sto) (a b : D) : Option D := match b with
  | .non => some (.bl (isNon a))
  | _ => none
def oNotN (_ : Sto) (a b : D) : Option D := match b with
  | .non => some (.bl (!isNon a))
  | _ => none
def oIx (M : Sto) (a b : D) : Option D := match b with
  | .int i => match rd M a with
    | .lst xs => atI xs i
    | .rls xs => atI xs i
    | .tup xs => atI xs i
    | _ => none
  | _ => none
section
variable {K : PySem.W.Frag} {cl : Nat → Addr} {T T' : List Addr} {B B' H H' : Hp} {v x y : V} {d a b : D} {vs : List V} {ds xs : List D} {M M' : Sto} {Q : VK}
theorem op_int2 {g : Int → Int → V} {f : Int → Int → D} {o : Sto → D → D → Option D} (hf : ∀ i j T B, Rep K cl T B (g i j) (f i j)) (h : ∀ M a b d, o M a b = some d → ∃ i j, a = .int i ∧ b = .int j ∧ d = f i j) : OpOk K cl (rI0 g) o := by
  intro T B H M x y a b d Q s rx ry e k
  obtain ⟨i, j, rfl, rfl, rfl⟩ := h M a b d e
  cases rx; cases ry
  exact ⟨i, j, rfl, rfl, kon0 s k (hf i j T B)⟩
theorem op_int2c {C : Int → Int → Prop} {g : Int → Int → V} {f : Int → Int → D} {o : Sto → D → D → Option D} (hf : ∀ i j T B, Rep K cl T B (g i j) (f i j)) (h : ∀ M a b d, o M a b = some d → ∃ i j, a = .int i ∧ b = .int j ∧ C i j ∧ d = f i j) : OpOk K cl (rI C g) o := by
  intro T B H M x y a b d Q s rx ry e k
  obtain ⟨i, j, rfl, rfl, hc, rfl⟩ := h M a b d e
  cases rx; cases ry
  exact ⟨i, j, rfl, rfl, hc, kon0 s k (hf i j T B)⟩
theorem ok_sub : OpOk K cl (rI0 fun i j => .int (i - j)) oSub := op_int2 (f := fun i j => .int (i - j)) (fun i j _ _ => .int _) fun M a b d e => by
  unfold oSub at e
  split at e <;> cases e
  exact ⟨_, _, rfl, rfl, rfl⟩
theorem ok_lt : OpOk K cl (rI0 fun i j => .bl (decide (i < j))) oLt := op_int2 (f := fun i j => .bl (decide (i < j))) (fun i j _ _ => .bl _) fun M a b d e => by
  unfold oLt at e
  split at e <;> cases e
  exact ⟨_, _, rfl, rfl, rfl⟩
theorem ok_le : OpOk K cl (rI0 fun i j => .bl (decide (i ≤ j))) oLe := op_int2 (f := fun i j => .bl (decide (i ≤ j))) (fun i j _ _ => .bl _) fun M a b d e => by
  unfold oLe at e
  split at e <;> cases e
  exact ⟨_, _, rfl, rfl, rfl⟩
theorem ok_gt : OpOk K cl (rI0 fun i j => .bl (decide (j < i))) oGt := op_int2 (f := fun i j => .bl (decide (j < i))) (fun i j _ _ => .bl _) fun M a b d e => by
  unfold oGt at e
  split at e <;> cases e
  exact ⟨_, _, rfl, rfl, rfl⟩
theorem ok_ge : OpOk K cl (rI0 fun i j => .bl (decide (j ≤ i))) oGe := op_int2 (f := fun i j => .bl (decide (j ≤ i))) (fun i j _ _ => .bl _) fun M a b d e => by
  unfold oGe at e
  split at e <;> cases e
  exact ⟨_, _, rfl, rfl, rfl⟩
theorem mulOk_C {i j : Int} (h : mulOk i j = true) : CMul i j := by
  unfold mulOk at h
  simp only [Bool.or_eq_true, Bool.and_eq_true, decide_eq_true_eq] at h
  exact h
theorem ok_mul : OpOk K cl (rI CMul fun i j => .int (i * j)) oMul := op_int2c (f := fun i j => .int (i * j)) (fun i j _ _ => .int _) fun M a b d e => by
  unfold oMul at e
  split at e
  · split at e
    · rename_i h; cases e; exact ⟨_, _, rfl, rfl, mulOk_C h, rfl⟩
    · cases e
  · cases e
theorem ok_fdiv : OpOk K cl (rI CDivN fun i j => .int (i.fdiv j)) oFdiv := op_int2c (f := fun i j => .int (i.fdiv j)) (fun i j _ _ => .int _) fun M a b d e => by
  unfold oFdiv at e
  split at e
  · split at e
    · rename_i h; cases e; exact ⟨_, _, rfl, rfl, h, rfl⟩
    · cases e
  · cases e
theorem ok_mod : OpOk K cl (rI (fun _ j => j ≠ 0) fun i j => .int (i.fmod j)) oMod := op_int2c (f := fun i j => .int (i.fmod j)) (fun i j _ _ => .int _) fun M a b d e => by
  unfold oMod at e
  split at e
  · split at e
    · rename_i h; cases e; exact ⟨_, _, rfl, rfl, h, rfl⟩
    · cases e
  · cases e
theorem ok_pow : OpOk K cl (rI CPow fun i j => .int (i ^ j.toNat)) oPow := op_int2c (f := fun i j => .int (i ^ j.toNat)) (fun i j _ _ => .int _) fun M a b d e => by
  unfold oPow at e
  split at e
  · split at e
    · rename_i h; cases e; exact ⟨_, _, rfl, rfl, h, rfl⟩
    · cases e
  · cases e
theorem ok_neg : UnOk K cl (rU fun i => .int (-i)) oNeg := by
  intro T B H M x a d Q s rx e k
  unfold oNeg at e
  split at e <;> cases e
  cases rx
  exact ⟨_, rfl, kon0 s k (.int _)⟩
/-- a + b: ints, texts, lists -/
def rAddA : R2 := fun x y H Q => rI0 (fun i j => .int (i + j)) x y H Q ∨ (∃ i j, x = .str i ∧ y = .str j ∧ i.length + j.length ≤ sizeLine ∧ Q (.str (i ++ j)) H) ∨ rCat x y H Q
theorem op_addA {X : Cx} : OpR X (binaryOp .Add) rAddA := op_add.or (op_add_str.or op_cat)
theorem ok_add : OpOk K cl rAddA oAdd := by
  intro T B H M x y a b d Q s rx ry e k
  unfold oAdd at e
  split at e
  · rename_i i j h1 h2
    cases e
    exact .inl ⟨i, j, rd_int rx h1, rd_int ry h2, kon0 s k (.int _)⟩
  · rename_i i j h1 h2
    split at e
    · rename_i h
      cases e
      exact .inr (.inl ⟨i, j, rd_str rx h1, rd_str ry h2, lim_le h, kon0 s k (.str _)⟩)
    · cases e
  · rename_i xs ys h1 h2
    split at e
    · rename_i h
      cases e
      obtain ⟨p, vs, e1, e2, e3⟩ := rd_lst s rx h1
      obtain ⟨q, ws, g1, g2, g3⟩ := rd_lst s ry h2
      exact .inr (.inr ⟨p, q, vs, ws, e1, g1, e2, g2, lim_le (by rw [e3.len, g3.len]; exact h), fun o ho => kon_lst s k (e3.append g3) ho⟩)
    · cases e
  · cases e
theorem scal_ok (rx : Rep K cl T B x a) (ry : Rep K cl T B y b) {k : Bool} (h : scalD a b = some k) : scal x y = true ∧ decide (x = y) = k := by
  cases rx <;> cases ry <;> (unfold scalD at h; try cases h) <;> exact ⟨rfl, by simp⟩
theorem ok_eq : OpOk K cl rEq oEq := by
  intro T B H M x y a b d Q s rx ry e k
  obtain ⟨c, h, e⟩ := map_eq e
  cases e
  obtain ⟨h1, h2⟩ := scal_ok rx ry h
  exact ⟨h1, by rw [h2]; exact kon0 s k (.bl _)⟩
theorem ok_ne : OpOk K cl rNe oNe := by
  intro T B H M x y a b d Q s rx ry e k
  obtain ⟨c, h, e⟩ := map_eq e
  cases e
  obtain ⟨h1, h2⟩ := scal_ok rx ry h
  exact ⟨h1, by rw [h2]; exact kon0 s k (.bl _)⟩
theorem isNon_ok (rx : Rep K cl T B x a) : decide (x = .non) = isNon a := by
  cases rx <;> (unfold isNon; simp)
theorem ok_isN : OpOk K cl (fun x y H Q => y = .non ∧ Q (.bl (decide (x = .non))) H) oIsN := by
  intro T B H M x y a b d Q s rx ry e k
  unfold oIsN at e
  split at e <;> cases e
  cases ry
  exact ⟨rfl, by rw [isNon_ok rx]; exact kon0 s k (.bl _)⟩
theorem ok_notN : OpOk K cl (fun x y H Q => y = .non ∧ Q (.bl (!decide (x = .non))) H) oNotN := by
  intro T B H M x y a b d Q s rx ry e k
  unfold oNotN at e
  split at e <;> cases e
  cases ry
  exact ⟨rfl, by rw [isNon_ok rx]; exact kon0 s k (.bl _)⟩
theorem ix_K {X : Cx} (hk : X.K = K := by rfl) : IxR X (rIx K) := hk ▸ ix_seq
theorem atI_reps (r : Reps K cl T B vs ds) {i : Int} (h : atI ds i = some d) : ∃ v, atI vs i = some v ∧ Rep K cl T B v d := by
  unfold atI at h ⊢
  rw [r.len]
  obtain ⟨j, h1, h2⟩ := bind_eq h
  obtain ⟨v, h3, h4⟩ := r.at h2
  exact ⟨v, by rw [h1]; exact h3, h4⟩
theorem ok_ix : OpOk K cl (rIx K) oIx := by
  intro T B H M x y a b d Q s rx ry e k
  unfold oIx at e
  split at e
  · cases ry
    split at e
    · rename_i i xs h
      obtain ⟨p, vs, e1, e2, e3⟩ := rd_lst s rx h
      obtain ⟨v, h3, h4⟩ := atI_reps e3 e
      exact .inl ⟨p, vs, _, v, e1, rfl, .of e2, h3, kon0 s k h4⟩
    · rename_i i xs h
      obtain ⟨p, vs, e1, e2, e3⟩ := rd_sq (xs := xs) s rx (by rw [h]; rfl)
      obtain ⟨v, h3, h4⟩ := atI_reps e3 e
      exact .inl ⟨p, vs, _, v, e1, rfl, e2, h3, kon0 s k h4⟩
    · rename_i i xs h
      obtain ⟨p, vs, e1, e2, e3⟩ := rd_tup s rx h
      obtain ⟨v, h3, h4⟩ := atI_reps e3 e
      exact .inr (.inl ⟨p, vs, _, v, e1, rfl, e2, h3, kon0 s k h4⟩)
    · cases e
  · cases e
end
/-! ### slices -/
def cutD (xs : List D) (lo hi : Option Int) : List D := (xs.drop (HT.sIx xs.length 0 lo)).take (HT.sIx xs.length xs.length hi - HT.sIx xs.length 0 lo)
def oNone : EO := fun _ M => some (none, M)
def oSome (A : EE) : EO := fun ρ M => (A ρ M).bind fun p => match p.1 with
  | .int i => some (some i, p.2)
  | _ => none
def lSl (A : EE) (L U : EO) : EA := fun ρ M => (A ρ M).bind fun p => (L ρ p.2).bind fun l => (U ρ l.2).bind fun u => match isSq (rd u.2 p.1) with
  | some xs => some (cutD xs l.1 u.1, u.2)
  | none => none
/-! ### new lists: kept for good, or in the store -/
def eFrz (F : EA) : EE := fun ρ M => (F ρ M).map fun p => (.lst p.1, p.2)
def eMlt (F : EA) : EE := fun ρ M => (F ρ M).map fun p => (.loc p.2.length, p.2 ++ [.lst p.1])
def lLst (F : EA) : EA := fun ρ M => (F ρ M).bind fun p => if p.1.length ≤ 1000000 then some p else none
def eTup (F : EA) : EE := fun ρ M => (F ρ M).bind fun p => if p.1.length ≤ 1000000 then some (.tup p.1, p.2) else none
def lRep (A C : EE) : EA := fun ρ M => (A ρ M).bind fun p => (C ρ p.2).bind fun q => match rd q.2 p.1, q.1 with
  | .lst xs, .int k => if xs.length * k.toNat ≤ 1000000 ∧ k < 2 ^ 62 ∧ -(2 ^ 62) < k then some ((List.replicate k.toNat xs).flatten, q.2) else none
  | _, _ => none
section
variable {X : Cx} {K : PySem.W.Frag} {cl : Nat → Addr} {e e1 e2 : Expr} {es : List Expr} {t t1 t2 : TE} {ta : TA} {to tl tu : TO} {A C : EE} {Aa : EA} {L U : EO} {pos p2 : Pos} {lo hi : Option Expr}
variable {T T' : List Addr} {B B' H H' : Hp} {M M' : Sto} {Q : VK}
theorem so_none (hk : X.K = K := by rfl) : SdO X K cl none tNoPart oNone := ⟨hk, po_none, fun T B H σ ρ M o M' Q s r h k => by
  cases h
  exact k _ _ _ .refl s⟩
theorem so_some (h : SdE X K cl e t A) : SdO X K cl (some e) (tPart t) (oSome A) := ⟨h.k, po_some h.pe, fun T B H σ ρ M o M' Q s r hh k => by
  obtain ⟨p, hp, hh⟩ := bind_eq hh
  obtain ⟨d, M1⟩ := p
  cases d with
  | int i =>
    cases hh
    refine h.ev T B H σ ρ M _ _ _ s r hp fun v T1 B1 H1 tr1 s1 r1 => ?_
    cases r1
    exact ⟨i, rfl, k _ _ _ tr1 s1⟩
  | _ => cases hh⟩
theorem cut_reps {vs : List V} {ds : List D} (r : Reps K cl T B vs ds) (lo hi : Option Int) : Reps K cl T B (cutV vs lo hi) (cutD ds lo hi) := by
  unfold cutV cutD
  rw [r.len]
  exact (r.drop _).take _
theorem upd_off {H : Hp} {p : Addr} {o : HO} : ∀ a, a ≠ p → upd H p o a = H a := fun a h => upd_ne h
theorem sdl_slice (ha : SdE X K cl e t A) (hl : SdO X K cl lo tl L) (hu : SdO X K cl hi tu U) : SdL X K cl (.Subscript e (.Slice lo hi none p2) pos) (tSl (rSlL K) t tl tu) (lSl A L U) := ⟨ha.k, ha.k ▸ pe_slice sl_list ha.pe hl.pe hu.pe, fun T B H σ ρ M ds M' Q s r h k => by
  obtain ⟨p, hp, h⟩ := bind_eq h
  obtain ⟨l, hl', h⟩ := bind_eq h
  obtain ⟨u, hu', h⟩ := bind_eq h
  split at h
  · rename_i xs hx
    cases h
    refine ha.ev T B H σ ρ M _ _ _ s r hp fun x T1 B1 H1 tr1 s1 r1 => ?_
    refine hl.ev T1 B1 H1 σ ρ _ _ _ _ s1 (r.tr tr1) hl' fun T2 B2 H2 tr2 s2 => ?_
    refine hu.ev T2 B2 H2 σ ρ _ _ _ _ s2 (r.tr (tr1.trans tr2)) hu' fun T3 B3 H3 tr3 s3 => ?_
    obtain ⟨q, vs, e1, e2, e3⟩ := rd_sq s3 (r1.tr (tr2.trans tr3)) hx
    exact ⟨q, vs, e1, e2, fun o ho => k o _ T3 B3 H3 ho ((tr1.trans tr2).trans tr3) s3 (cut_reps e3 _ _) _ upd_off upd_same⟩
  · cases h⟩
theorem sdl_lst (ha : SdA X K cl es ta Aa) : SdL X K cl (.List es pos) (tLst ta) (lLst Aa) := ⟨ha.k, pe_lst ha.pe, fun T B H σ ρ M ds M' Q s r h k => by
  obtain ⟨p, hp, h⟩ := bind_eq h
  split at h
  · rename_i hz
    cases h
    refine ha.ev T B H σ ρ M _ _ _ s r hp fun vs T1 B1 H1 tr1 s1 r1 => ?_
    exact ⟨lim_le (by rw [r1.len]; exact hz), fun o ho => k o _ T1 B1 H1 ho tr1 s1 r1 _ upd_off upd_same⟩
  · cases h⟩
theorem sdl_rep (ha : SdE X K cl e1 t1 A) (hb : SdE X K cl e2 t2 C) : SdL X K cl (.BinOp e1 .Mult e2 pos) (tOp rRep t1 t2) (lRep A C) := ⟨ha.k, pe_op op_rep ha.pe hb.pe, fun T B H σ ρ M ds M' Q s r h k => by
  obtain ⟨p, hp, h⟩ := bind_eq h
  obtain ⟨q, hq, h⟩ := bind_eq h
  obtain ⟨q1, q2⟩ := q
  split at h
  · rename_i xs n hx hn
    split at h
    · rename_i hz
      cases h
      refine ha.ev T B H σ ρ M _ _ _ s r hp fun x T1 B1 H1 tr1 s1 r1 => ?_
      refine hb.ev T1 B1 H1 σ ρ _ _ _ _ s1 (r.tr tr1) hq fun y T2 B2 H2 tr2 s2 r2 => ?_
      obtain ⟨a, vs, e1, e2, e3⟩ := rd_lst s2 (r1.tr tr2) hx
      have hn' : q1 = .int n := hn
      subst hn'
      cases r2
      refine ⟨a, n, vs, e1, rfl, e2, by omega, by omega, lim_le (by rw [e3.len]; exact hz.1), fun o ho => k o _ T2 B2 H2 ho (tr1.trans tr2) s2 ?_ _ upd_off upd_same⟩
      generalize n.toNat = m
      induction m with
      | zero => exact .nil
      | succ m ih =>
        rw [List.replicate_succ, List.replicate_succ, List.flatten_cons, List.flatten_cons]
        exact e3.append ih
    · cases h
  · cases h⟩
theorem EvL.frz (h : EvL K cl t Aa) : EvE K cl t (eFrz Aa) := fun T B H σ ρ M d M' Q s r hh k => by
  obtain ⟨p, hp, hh⟩ := map_eq hh
  cases hh
  refine h T B H σ ρ M _ _ _ s r hp fun a vs T1 B1 H1 ha tr1 s1 r1 H2 hoff hon => ?_
  obtain ⟨t2, s2⟩ := s1.alloc ha (.lst vs)
  have eH : H2 = upd H1 a (.lst vs) := by
    funext b
    by_cases hb : b = a
    · subst hb; rw [upd_same]; exact hon
    · rw [upd_ne hb]; exact hoff b hb
  rw [eH]
  exact k _ _ _ _ (tr1.trans t2) s2 (.lst upd_same r1.len (fun i v d a b => (r1.get i v d a b).tr t2))
theorem EvL.mlt (h : EvL K cl t Aa) : EvE K cl t (eMlt Aa) := fun T B H σ ρ M d M' Q s r hh k => by
  obtain ⟨p, hp, hh⟩ := map_eq hh
  cases hh
  refine h T B H σ ρ M _ _ _ s r hp fun a vs T1 B1 H1 ha tr1 s1 r1 H2 hoff hon => ?_
  obtain ⟨t2, s2⟩ := s1.new (o := .lst vs) (m := .lst p.1) ha ⟨vs, rfl, r1⟩
  have eH : H2 = upd H1 a (.lst vs) := by
    funext b
    by_cases hb : b = a
    · subst hb; rw [upd_same]; exact hon
    · rw [upd_ne hb]; exact hoff b hb
  rw [eH]
  refine k _ _ _ _ (tr1.trans t2) s2 (.loc ?_)
  rw [← s1.len, List.getElem?_append_right (Nat.le_refl _), Nat.sub_self]
  rfl
theorem sd_frz (h : SdL X K cl e t Aa) : SdE X K cl e t (eFrz Aa) := ⟨h.k, h.pe, EvL.frz h.ev⟩
theorem sd_mlt (h : SdL X K cl e t Aa) : SdE X K cl e t (eMlt Aa) := ⟨h.k, h.pe, EvL.mlt h.ev⟩
theorem sd_tup {n : Nat} (ha : SdA X K cl es ta Aa) : SdE X K cl (.Tuple es n pos) (tTup ta) (eTup Aa) := ⟨ha.k, pe_tup ha.pe, fun T B H σ ρ M d M' Q s r h k => by
  obtain ⟨p, hp, h⟩ := bind_eq h
  split at h
  · rename_i hz
    cases h
    refine ha.ev T B H σ ρ M _ _ _ s r hp fun vs T1 B1 H1 tr1 s1 r1 => ?_
    exact ⟨lim_le (by rw [r1.len]; exact hz), fun o ho => kon_tup s1 (fun v T2 B2 H2 tr2 s2 r2 => k v T2 B2 H2 (tr1.trans tr2) s2 r2) r1 ho⟩
  · cases h⟩
end
/-! ### tests, and, or, not, chains -/
def truth (M : Sto) (d : D) : Option Bool := match rd M d with
  | .non => some false
  | .bl b => some b
  | .int i => some (i != 0)
  | .str s => if s.length ≤ 1000000 then some ((s.length : Int) != 0) else none
  | .lst xs => some (!xs.isEmpty)
  | .rls xs => some (!xs.isEmpty)
  | .tup xs => some (!xs.isEmpty)
  | _ => none
def bTest (A : EE) : ET := fun ρ M => (A ρ M).bind fun p => match p.1 with
  | .bl b => some (b, p.2)
  | _ => none
def bTru (A : EE) : ET := fun ρ M => (A ρ M).bind fun p => (truth p.2 p.1).map fun b => (b, p.2)
def bAnd (A C : ET) : ET := fun ρ M => (A ρ M).bind fun p => if p.1 = true then C ρ p.2 else some (false, p.2)
def bOr (A C : ET) : ET := fun ρ M => (A ρ M).bind fun p => if p.1 = true then some (true, p.2) else C ρ p.2
def bNot (A : ET) : ET := fun ρ M => (A ρ M).map fun p => (!p.1, p.2)
def eAnd (A C : EE) : EE := fun ρ M => (A ρ M).bind fun p => match p.1 with
  | .bl true => C ρ p.2
  | .bl false => some (.bl false, p.2)
  | _ => none
def eOr (A C : EE) : EE := fun ρ M => (A ρ M).bind fun p => match p.1 with
  | .bl true => some (.bl true, p.2)
  | .bl false => C ρ p.2
  | _ => none
def eNot (A : EE) : EE := fun ρ M => (A ρ M).bind fun p => match p.1 with
  | .bl b => some (.bl (!b), p.2)
  | _ => none
def eOrT (A C : EE) : EE := fun ρ M => (A ρ M).bind fun p => (truth p.2 p.1).bind fun b => if b = true then some p else C ρ p.2
def eIf (c : ET) (A C : EE) : EE := fun ρ M => (c ρ M).bind fun p => if p.1 = true then A ρ p.2 else C ρ p.2
def eChain (f g : Sto → D → D → Option D) (A C E : EE) : EE := fun ρ M => (A ρ M).bind fun p => (C ρ p.2).bind fun q => (f q.2 p.1 q.1).bind fun d => match d with
  | .bl true => (E ρ q.2).bind fun r => (g r.2 q.1 r.1).map fun d => (d, r.2)
  | .bl false => some (.bl false, q.2)
  | _ => none
section
variable {X : Cx} {K : PySem.W.Frag} {cl : Nat → Addr} {e e1 e2 e3 : Expr} {es rest : List Expr} {t t1 t2 t3 : TE} {tt u : TT} {A C E : EE} {F G : ET} {pos : Pos}
variable {T T' : List Addr} {B B' H H' : Hp} {M M' : Sto} {Q : VK} {x : V} {d : D}
theorem EvE.test (h : EvE K cl t A) : EvT K cl (tTest t) (bTest A) := fun T B H σ ρ M b M' Q s r hh k => by
  obtain ⟨p, hp, hh⟩ := bind_eq hh
  obtain ⟨d, M1⟩ := p
  cases d with
  | bl c =>
    cases hh
    refine h T B H σ ρ M _ _ _ s r hp fun v T1 B1 H1 tr1 s1 r1 => ?_
    cases r1
    exact ⟨_, rfl, k _ _ _ tr1 s1⟩
  | _ => cases hh
theorem truth_ok (s : StOk K cl T B H M) (r : Rep K cl T B x d) {b : Bool} (h : truth M d = some b) : TruV K x H b := by
  unfold truth at h
  split at h
  · rename_i e
    cases h
    cases rd_rep r e (fun _ => nofun)
    rfl
  · rename_i c e
    cases h
    cases rd_rep r e (fun _ => nofun)
    rfl
  · rename_i i e
    cases h
    rw [rd_int r e]
    rfl
  · rename_i z e
    split at h
    · rename_i hz
      cases h
      rw [rd_str r e]
      exact ⟨lim_le hz, rfl⟩
    · cases h
  · rename_i xs e
    cases h
    obtain ⟨p, vs, e1, e2, e3⟩ := rd_lst s r e
    subst e1
    refine .inl ⟨vs, .of e2, ?_⟩
    have := e3.len
    cases vs <;> cases xs <;> simp_all
  · rename_i xs e
    cases h
    obtain ⟨p, vs, e1, e2, e3⟩ := rd_sq (xs := xs) s r (by rw [e]; rfl)
    subst e1
    refine .inl ⟨vs, e2, ?_⟩
    have := e3.len
    cases vs <;> cases xs <;> simp_all
  · rename_i xs e
    cases h
    obtain ⟨p, vs, e1, e2, e3⟩ := rd_tup s r e
    subst e1
    refine .inr (.inl ⟨vs, e2, ?_⟩)
    have := e3.len
    cases vs <;> cases xs <;> simp_all
  · cases h
theorem EvE.tru (h : EvE K cl t A) : EvT K cl (fun σ H Q => t σ H fun x H' => ∃ k, TruV K x H' k ∧ Q k H') (bTru A) := fun T B H σ ρ M b M' Q s r hh k => by
  obtain ⟨p, hp, hh⟩ := bind_eq hh
  obtain ⟨b', hb, hh⟩ := map_eq hh
  cases hh
  refine h T B H σ ρ M _ _ _ s r hp fun v T1 B1 H1 tr1 s1 r1 => ?_
  exact ⟨_, truth_ok s1 r1 hb, k _ _ _ tr1 s1⟩
theorem st_cmp {op : CmpOp} {r : R2} {f : Sto → D → D → Option D} (ho : OpR X (compareOp op) r) (hr : OpOk K cl r f) (ha : SdE X K cl e1 t1 A) (hb : SdE X K cl e2 t2 C) (hm : behindInMarks op e2 = false) : SdT X K cl (.Compare e1 [op] [e2] pos) (tTest (tOp r t1 t2)) (bTest (eBin f A C)) :=
  ⟨ha.k, pt_cmpR ho ha.pe hb.pe hm, (ha.ev.bin hr hb.ev).test⟩
theorem st_tru (h : SdE X K cl e t A) (he : ∀ whole, isTrue e X.env whole = (do let v ← whole; standAt e.pos; holding [v] (truthy v)) := by intro _; rfl) : SdT X K cl e (fun σ H Q => t σ H fun x H' => ∃ k, TruV K x H' k ∧ Q k H') (bTru A) :=
  ⟨h.k, by have := pt_truth h.pe he; rw [h.k] at this; exact this, h.ev.tru⟩
theorem EvT.and (h1 : EvT K cl tt F) (h2 : EvT K cl u G) : EvT K cl (tAnd tt u) (bAnd F G) := fun T B H σ ρ M b M' Q s r hh k => by
  obtain ⟨p, hp, hh⟩ := bind_eq hh
  refine h1 T B H σ ρ M _ _ _ s r hp fun T1 B1 H1 tr1 s1 => ?_
  split at hh
  · rename_i e
    rw [if_pos e]
    exact h2 T1 B1 H1 σ ρ _ _ _ _ s1 (r.tr tr1) hh fun T2 B2 H2 tr2 s2 => k _ _ _ (tr1.trans tr2) s2
  · rename_i e
    cases hh
    rw [if_neg e]
    exact k _ _ _ tr1 s1
theorem EvT.or (h1 : EvT K cl tt F) (h2 : EvT K cl u G) : EvT K cl (tOr tt u) (bOr F G) := fun T B H σ ρ M b M' Q s r hh k => by
  obtain ⟨p, hp, hh⟩ := bind_eq hh
  refine h1 T B H σ ρ M _ _ _ s r hp fun T1 B1 H1 tr1 s1 => ?_
  split at hh
  · rename_i e
    cases hh
    rw [if_pos e]
    exact k _ _ _ tr1 s1
  · rename_i e
    rw [if_neg e]
    exact h2 T1 B1 H1 σ ρ _ _ _ _ s1 (r.tr tr1) hh fun T2 B2 H2 tr2 s2 => k _ _ _ (tr1.trans tr2) s2
theorem EvT.not (h1 : EvT K cl tt F) : EvT K cl (tNot tt) (bNot F) := fun T B H σ ρ M b M' Q s r hh k => by
  obtain ⟨p, hp, hh⟩ := map_eq hh
  cases hh
  exact h1 T B H σ ρ M _ _ _ s r hp fun T1 B1 H1 tr1 s1 => k _ _ _ tr1 s1
theorem sw_and1 (h : SdT X K cl e tt F) : SdW X K cl (.BoolOp .And [e] pos) tt F := ⟨h.k, pw_and1 h.pe, h.ev⟩
theorem sw_or1 (h : SdT X K cl e tt F) : SdW X K cl (.BoolOp .Or [e] pos) tt F := ⟨h.k, pw_or1 h.pe, h.ev⟩
theorem sw_and (h1 : SdT X K cl e tt F) (h2 : SdW X K cl (.BoolOp .And (e1 :: rest) pos) u G) : SdW X K cl (.BoolOp .And (e :: e1 :: rest) pos) (tAnd tt u) (bAnd F G) := ⟨h1.k, pw_and h1.pe h2.pe, h1.ev.and h2.ev⟩
theorem sw_or (h1 : SdT X K cl e tt F) (h2 : SdW X K cl (.BoolOp .Or (e1 :: rest) pos) u G) : SdW X K cl (.BoolOp .Or (e :: e1 :: rest) pos) (tOr tt u) (bOr F G) := ⟨h1.k, pw_or h1.pe h2.pe, h1.ev.or h2.ev⟩
theorem SdW.pt (h : SdW X K cl e tt F) : SdT X K cl e tt F := ⟨h.k, h.pe.pt, h.ev⟩
theorem st_not (h : SdT X K cl e tt F) : SdT X K cl (.UnaryOp .Not e pos) (tNot tt) (bNot F) := ⟨h.k, pt_not h.pe, h.ev.not⟩
theorem sd_one {op : BoolOp} (h : SdE X K cl e t A) : SdE X K cl (.BoolOp op [e] pos) t A := ⟨h.k, pe_one h.pe, h.ev⟩
theorem sd_and (ha : SdE X K cl e t A) (hb : SdE X K cl (.BoolOp .And (e1 :: rest) pos) t1 C) : SdE X K cl (.BoolOp .And (e :: e1 :: rest) pos) (tAndV t t1) (eAnd A C) := ⟨ha.k, pe_and ha.pe hb.pe, fun T B H σ ρ M d M' Q s r h k => by
  obtain ⟨p, hp, h⟩ := bind_eq h
  obtain ⟨p1, p2⟩ := p
  cases p1 with
  | bl b =>
    refine ha.ev T B H σ ρ M _ _ _ s r hp fun v T1 B1 H1 tr1 s1 r1 => ?_
    cases r1
    refine ⟨b, rfl, ?_⟩
    cases b with
    | true =>
      rw [if_pos rfl]
      exact hb.ev T1 B1 H1 σ ρ _ _ _ _ s1 (r.tr tr1) h fun v T2 B2 H2 tr2 s2 r2 => k v _ _ _ (tr1.trans tr2) s2 r2
    | false =>
      cases h
      rw [if_neg Bool.false_ne_true]
      exact k _ _ _ _ tr1 s1 (.bl _)
  | _ => cases h⟩
theorem sd_or (ha : SdE X K cl e t A) (hb : SdE X K cl (.BoolOp .Or (e1 :: rest) pos) t1 C) : SdE X K cl (.BoolOp .Or (e :: e1 :: rest) pos) (tOrV t t1) (eOr A C) := ⟨ha.k, pe_or ha.pe hb.pe, fun T B H σ ρ M d M' Q s r h k => by
  obtain ⟨p, hp, h⟩ := bind_eq h
  obtain ⟨p1, p2⟩ := p
  cases p1 with
  | bl b =>
    refine ha.ev T B H σ ρ M _ _ _ s r hp fun v T1 B1 H1 tr1 s1 r1 => ?_
    cases r1
    refine ⟨b, rfl, ?_⟩
    cases b with
    | true =>
      cases h
      rw [if_pos rfl]
      exact k _ _ _ _ tr1 s1 (.bl _)
    | false =>
      rw [if_neg Bool.false_ne_true]
      exact hb.ev T1 B1 H1 σ ρ _ _ _ _ s1 (r.tr tr1) h fun v T2 B2 H2 tr2 s2 r2 => k v _ _ _ (tr1.trans tr2) s2 r2
  | _ => cases h⟩
theorem sd_orT (ha : SdE X K cl e t A) (hb : SdE X K cl (.BoolOp .Or (e1 :: rest) pos) t1 C) : SdE X K cl (.BoolOp .Or (e :: e1 :: rest) pos) (tOrT K t t1) (eOrT A C) := ⟨ha.k, ha.k ▸ pe_orT ha.pe hb.pe, fun T B H σ ρ M d M' Q s r h k => by
  obtain ⟨p, hp, h⟩ := bind_eq h
  obtain ⟨b, hb', h⟩ := bind_eq h
  refine ha.ev T B H σ ρ M _ _ _ s r hp fun v T1 B1 H1 tr1 s1 r1 => ?_
  refine ⟨b, truth_ok s1 r1 hb', ?_⟩
  split at h
  · rename_i e
    cases h
    rw [if_pos e]
    exact k _ _ _ _ tr1 s1 r1
  · rename_i e
    rw [if_neg e]
    exact hb.ev T1 B1 H1 σ ρ _ _ _ _ s1 (r.tr tr1) h fun v T2 B2 H2 tr2 s2 r2 => k v _ _ _ (tr1.trans tr2) s2 r2⟩
theorem sd_not (ha : SdE X K cl e t A) : SdE X K cl (.UnaryOp .Not e pos) (tNotV t) (eNot A) := ⟨ha.k, pe_not ha.pe, fun T B H σ ρ M d M' Q s r h k => by
  obtain ⟨p, hp, h⟩ := bind_eq h
  obtain ⟨p1, p2⟩ := p
  cases p1 with
  | bl b =>
    cases h
    refine ha.ev T B H σ ρ M _ _ _ s r hp fun v T1 B1 H1 tr1 s1 r1 => ?_
    cases r1
    exact ⟨_, rfl, k _ _ _ _ tr1 s1 (.bl _)⟩
  | _ => cases h⟩
theorem sd_if (hc : SdT X K cl e tt F) (ha : SdE X K cl e1 t1 A) (hb : SdE X K cl e2 t2 C) : SdE X K cl (.IfExp e e1 e2 pos) (tIf tt t1 t2) (eIf F A C) := ⟨hc.k, pe_ifExp hc.pe ha.pe hb.pe, fun T B H σ ρ M d M' Q s r h k => by
  obtain ⟨p, hp, h⟩ := bind_eq h
  refine hc.ev T B H σ ρ M _ _ _ s r hp fun T1 B1 H1 tr1 s1 => ?_
  split at h
  · rename_i e
    rw [if_pos e]
    exact ha.ev T1 B1 H1 σ ρ _ _ _ _ s1 (r.tr tr1) h fun v T2 B2 H2 tr2 s2 r2 => k v _ _ _ (tr1.trans tr2) s2 r2
  · rename_i e
    rw [if_neg e]
    exact hb.ev T1 B1 H1 σ ρ _ _ _ _ s1 (r.tr tr1) h fun v T2 B2 H2 tr2 s2 r2 => k v _ _ _ (tr1.trans tr2) s2 r2⟩
theorem EvE.chain {r1 r2 : R2} {f g : Sto → D → D → Option D} (hf : OpOk K cl r1 f) (hg : OpOk K cl r2 g) (ha : EvE K cl t1 A) (hb : EvE K cl t2 C) (hc : EvE K cl t3 E) : EvE K cl (tChain r1 r2 t1 t2 t3) (eChain f g A C E) := fun T B H σ ρ M d M' Q s r h k => by
  obtain ⟨p, hp, h⟩ := bind_eq h
  obtain ⟨q, hq, h⟩ := bind_eq h
  obtain ⟨c, hc', h⟩ := bind_eq h
  refine ha T B H σ ρ M _ _ _ s r hp fun x T1 B1 H1 tr1 s1 r1 => ?_
  refine hb T1 B1 H1 σ ρ _ _ _ _ s1 (r.tr tr1) hq fun y T2 B2 H2 tr2 s2 r2 => ?_
  refine hf T2 B2 H2 _ x y _ _ c _ s2 (r1.tr tr2) r2 hc' fun z T3 B3 H3 tr3 s3 r3 => ?_
  cases c with
  | bl b =>
    cases r3
    refine ⟨b, rfl, ?_⟩
    cases b with
    | true =>
      rw [if_pos rfl]
      obtain ⟨w, hw, h⟩ := bind_eq h
      obtain ⟨d', hd, h⟩ := map_eq h
      cases h
      refine hc T3 B3 H3 σ ρ _ _ _ _ s3 (r.tr ((tr1.trans tr2).trans tr3)) hw fun z T4 B4 H4 tr4 s4 r4 => ?_
      exact hg T4 B4 H4 _ y z _ _ _ Q s4 (r2.tr (tr3.trans tr4)) r4 hd fun v T5 B5 H5 tr5 s5 r5 => k v _ _ _ ((((tr1.trans tr2).trans tr3).trans tr4).trans tr5) s5 r5
    | false =>
      cases h
      rw [if_neg Bool.false_ne_true]
      exact k _ _ _ _ ((tr1.trans tr2).trans tr3) s3 (.bl _)
  | _ => cases h
theorem sd_chain {op op' : CmpOp} {r1 r2 : R2} {f g : Sto → D → D → Option D} (ho : OpR X (compareOp op) r1) (ho' : OpR X (compareOp op') r2) (hf : OpOk K cl r1 f) (hg : OpOk K cl r2 g) (ha : SdE X K cl e1 t1 A) (hb : SdE X K cl e2 t2 C) (hc : SdE X K cl e3 t3 E)
    (hm : lastMarks [op, op'] [e2, e3] = false := by with_unfolding_all rfl) : SdE X K cl (.Compare e1 [op, op'] [e2, e3] pos) (tChain r1 r2 t1 t2 t3) (eChain f g A C E) := ⟨ha.k, pe_chain ho ho' ha.pe hb.pe hc.pe hm, EvE.chain hf hg ha.ev hb.ev hc.ev⟩
theorem st_chain {op op' : CmpOp} {r1 r2 : R2} {f g : Sto → D → D → Option D} (ho : OpR X (compareOp op) r1) (ho' : OpR X (compareOp op') r2) (hf : OpOk K cl r1 f) (hg : OpOk K cl r2 g) (ha : SdE X K cl e1 t1 A) (hb : SdE X K cl e2 t2 C) (hc : SdE X K cl e3 t3 E)
    (hm : lastMarks [op, op'] [e2, e3] = false := by with_unfolding_all rfl) : SdT X K cl (.Compare e1 [op, op'] [e2, e3] pos) (tTest (tChain r1 r2 t1 t2 t3)) (bTest (eChain f g A C E)) := ⟨ha.k, pt_chain ho ho' ha.pe hb.pe hc.pe hm, (EvE.chain hf hg ha.ev hb.ev hc.ev).test⟩
end
end Y
set_option Elab.async false
set_option linter.all false
set_option maxRecDepth 100000
set_option maxHeartbeats 4000000
namespace Y
open PySem PySem.Spec PyProof.Rows L2
/-! ### junk: what is tracked, but neither kept for good nor in the store -/
section
variable {K : PySem.W.Frag} {cl : Nat → Addr} {T T' T0 : List Addr} {B B' B0 H H' H0 : Hp} {M M' : Sto} {p : Addr} {o : HO}
theorem StOk.junk (s : StOk K cl T B H M) (hp : p ∉ T) (hb : B p = none) : StOk K cl T B (upd H p o) M := ⟨fun a u q => by
  rw [upd_ne (ne_of_none q hb)]; exact s.ex a u q, s.len, s.nd, fun i a m h1 h2 => by
  rw [upd_ne (fun e => hp (by rw [← e]; exact List.mem_of_getElem? h1))]
  exact s.cell i a m h1 h2⟩
theorem Tr.junk (t : Tr T0 B0 H0 T B H) (h0 : H0 p = none) : Tr T0 B0 H0 T B (upd H p o) := ⟨t.pre, t.exB, fun a u q n => by
  rw [upd_ne (ne_of_none q h0)]; exact t.fr a u q n⟩
def off (H : Hp) (p : Addr) : Hp := fun a => if a = p then none else H a
theorem off_ne {a : Addr} (h : a ≠ p) : off H p a = H a := by unfold off; rw [if_neg h]
theorem off_same : off H p p = none := by unfold off; rw [if_pos rfl]
theorem StOk.off (s : StOk K cl T B H M) (hp : p ∉ T) (hb : B p = none) : StOk K cl T B (off H p) M := ⟨fun a u q => by
  rw [off_ne (ne_of_none q hb)]; exact s.ex a u q, s.len, s.nd, fun i a m h1 h2 => by
  rw [off_ne (fun e => hp (by rw [← e]; exact List.mem_of_getElem? h1))]
  exact s.cell i a m h1 h2⟩
theorem Tr.off (t : Tr T0 B0 H0 T B H) (h0 : H0 p = none) : Tr T0 B0 H0 T B (off H p) := ⟨t.pre, t.exB, fun a u q n => by
  rw [off_ne (ne_of_none q h0)]; exact t.fr a u q n⟩
end
/-! ### targets -/
section
variable (K : PySem.W.Frag) (cl : Nat → Addr)
def EvG (js : List Nat) (g : TG) (G : EG) : Prop := ∀ T B H σ ρ M x d ρ' M' (Q : L2.St → Hp → Prop), StOk K cl T B H M → Sl K cl T B σ ρ → Rep K cl T B x d → G d ρ M = some (ρ', M') →
  (∀ T' B' H' σ', Tr T B H T' B' H' → StOk K cl T' B' H' M' → Sl K cl T' B' σ' ρ' → (∀ vs : List Nat, (∀ j ∈ js, j ∈ vs) → wipe σ' vs = wipe σ vs) → Q σ' H') → g x σ H Q
def EvGs (js : List Nat) (g : TGs) (G : EGs) : Prop := ∀ T B H σ ρ M xs ds ρ' M' (Q : L2.St → Hp → Prop), StOk K cl T B H M → Sl K cl T B σ ρ → Reps K cl T B xs ds → G ds ρ M = some (ρ', M') →
  (∀ T' B' H' σ', Tr T B H T' B' H' → StOk K cl T' B' H' M' → Sl K cl T' B' σ' ρ' → (∀ vs : List Nat, (∀ j ∈ js, j ∈ vs) → wipe σ' vs = wipe σ vs) → Q σ' H') → g xs σ H Q
structure SdG (X : Cx) (tg : Expr) (js : List Nat) (g : TG) (G : EG) : Prop where
  k : X.K = K
  pe : PG X tg g
  ev : EvG K cl js g G
structure SdGs (X : Cx) (tg : List Expr) (js : List Nat) (g : TGs) (G : EGs) : Prop where
  k : X.K = K
  pe : PGs X tg g
  ev : EvGs K cl js g G
end
theorem wipe_in {σ : L2.St} {i : Nat} : ∀ {vs : List Nat}, i ∈ vs → i < σ.length → (wipe σ vs)[i]? = some none
  | [], h, _ => by simp at h
  | v :: vs, h, hl => by
    unfold wipe
    by_cases hv : v = i
    · subst hv
      rw [List.getElem?_set_self (by rw [wipe_length]; exact hl)]
    · rw [List.getElem?_set_ne hv]
      exact wipe_in ((List.mem_cons.mp h).resolve_left (fun e => hv e.symm)) hl
theorem wipe_set {σ : L2.St} {i : Nat} {x : Option V} {vs : List Nat} (h : i ∈ vs) : wipe (σ.set i x) vs = wipe σ vs := by
  apply List.ext_getElem?
  intro j
  by_cases hj : j ∈ vs
  · by_cases hl : j < σ.length
    · rw [wipe_in hj hl, wipe_in hj (by simpa using hl)]
    · rw [List.getElem?_eq_none (by rw [wipe_length]; simpa using hl), List.getElem?_eq_none (by rw [wipe_length]; simpa using hl)]
  · rw [wipe_out hj, wipe_out hj, List.getElem?_set_ne (fun e => hj (by rw [← e]; exact h))]
theorem wipe_wipe {σ : L2.St} {vs : List Nat} : wipe (wipe σ vs) vs = wipe σ vs := by
  apply List.ext_getElem?
  intro j
  by_cases hj : j ∈ vs
  · by_cases hl : j < σ.length
    · rw [wipe_in hj hl, wipe_in hj (by rw [wipe_length]; exact hl)]
    · rw [List.getElem?_eq_none (by rw [wipe_length, wipe_length]; simpa using hl), List.getElem?_eq_none (by rw [wipe_length]; simpa using hl)]
  · rw [wipe_out hj]
def gN (i : Nat) : EG := fun d ρ M => some (ρ.set i (some d), M)
def gsNil : EGs := fun ds ρ M => match ds with
  | [] => some (ρ, M)
  | _ :: _ => none
def gsCons (G : EG) (Gs : EGs) : EGs := fun ds ρ M => match ds with
  | d :: r => (G d ρ M).bind fun p => Gs r p.1 p.2
  | [] => none
def gT (n : Nat) (Gs : EGs) : EG := fun d ρ M => match d with
  | .tup ds => if ds.length = n then Gs ds ρ M else none
  | _ => none
def gSubL (O I : EE) : EG := fun d ρ M => (O ρ M).bind fun p => (I ρ p.2).bind fun q => match p.1, q.1 with
  | .loc j, .int k => match q.2[j]? with
    | some (.lst xs) => (ixN xs.length k).map fun m => (ρ, q.2.set j (.lst (xs.set m d)))
    | _ => none
  | _, _ => none
section
variable {X : Cx} {K : PySem.W.Frag} {cl : Nat → Addr} {e e1 e2 : Expr} {es : List Expr} {t t1 t2 : TE} {A C : EE} {g : TG} {gs : TGs} {G : EG} {Gs : EGs} {js ks : List Nat} {pos : Pos}
theorem sg_name (i : Nat) {x : Str} (hN : X.N.Nodup) (hi : X.N[i]? = some x := by rfl) (hx : Loc X.env.scope x := by first | exact Or.inl rfl | exact Or.inr rfl) (hf : X.fn x = true ∨ X.env.scope.names.lookup x = some .local := by first | exact .inl rfl | exact .inr rfl | assumption)
    (hk : X.K = K := by rfl) : SdG K cl X (.Name x pos) [i] (gName i) (gN i) := ⟨hk, pg_name hN hi hx hf, fun T B H σ ρ M x d ρ' M' Q s r rx h k => by
  cases h
  exact k _ _ _ _ .refl s (r.set i rx) fun vs hj => wipe_set (hj i (List.mem_singleton.mpr rfl))⟩
theorem sgs_nil (hk : X.K = K := by rfl) : SdGs K cl X [] [] gNil gsNil := ⟨hk, pgs_nil, fun T B H σ ρ M xs ds ρ' M' Q s r rx h k => by
  cases ds with
  | nil =>
    cases h
    exact ⟨rx.nil_inv, k _ _ _ _ .refl s r fun vs _ => rfl⟩
  | cons d ds => cases h⟩
theorem sgs_cons (h1 : SdG K cl X e js g G) (h2 : SdGs K cl X es ks gs Gs) (hs : (assignEach (e :: es) X.env).map (·.2) = assign e X.env :: (assignEach es X.env).map (·.2) := by rfl) : SdGs K cl X (e :: es) (js ++ ks) (gCons g gs) (gsCons G Gs) :=
  ⟨h1.k, pgs_cons h1.pe h2.pe hs, fun T B H σ ρ M xs ds ρ' M' Q s r rx h k => by
  cases ds with
  | nil => cases h
  | cons d ds =>
    obtain ⟨p, hp, h⟩ := bind_eq h
    obtain ⟨v, vr, rfl, r1, r2⟩ := rx.cons_inv
    refine ⟨v, vr, rfl, h1.ev T B H σ ρ M v d _ _ _ s r r1 hp fun T1 B1 H1 σ1 tr1 s1 sl1 w1 => ?_⟩
    exact h2.ev T1 B1 H1 σ1 _ _ vr ds _ _ Q s1 sl1 (r2.tr tr1) h fun T2 B2 H2 σ2 tr2 s2 sl2 w2 => k _ _ _ _ (tr1.trans tr2) s2 sl2 fun vs hj =>
      (w2 vs fun j hjj => hj j (List.mem_append_right _ hjj)).trans (w1 vs fun j hjj => hj j (List.mem_append_left _ hjj))⟩
theorem sg_tup {k n : Nat} (hc : X.calm = true) (h : SdGs K cl X es js gs Gs) (hn : (assignEach es X.env).length = n := by rfl) (hst : (assignEach es X.env).findIdx? (·.1) = none := by rfl) : SdG K cl X (.Tuple es k pos) js (gTup K n gs) (gT n Gs) :=
  ⟨h.k, h.k ▸ pg_tup hc h.pe hn hst, fun T B H σ ρ M x d ρ' M' Q s r rx hh kk => by
  cases d with
  | tup ds =>
    have hh : (if ds.length = n then Gs ds ρ M else none) = some (ρ', M') := hh
    split at hh
    · rename_i hl
      cases rx with
      | tup hq l g' =>
        exact ⟨_, _, rfl, same_sqt s.ex hq, l.trans hl, h.ev T B H σ ρ M _ ds _ _ Q s r ⟨l, g'⟩ hh kk⟩
    · cases hh
  | _ => cases hh⟩
theorem sg_subL (ho : SdE X K cl e1 t1 A) (hi : SdE X K cl e2 t2 C)
    (ha : ∀ v, assign (.Subscript e1 e2 pos) X.env v = (do
      let ov ← holding [v] (eval e1 X.env)
      let iv ← holding [v, ov] (eval e2 X.env)
      standAt pos
      holding [v, ov, iv] (setItem ov iv v)
      release [v, ov, iv] []) := by intro _; rfl) : SdG K cl X (.Subscript e1 e2 pos) [] (gSub t1 t2 rSetL) (gSubL A C) := ⟨ho.k, pg_sub ho.pe hi.pe set_list ha, fun T B H σ ρ M x d ρ' M' Q s r rx h k => by
  obtain ⟨p, hp, h⟩ := bind_eq h
  obtain ⟨q, hq, h⟩ := bind_eq h
  obtain ⟨p1, M1⟩ := p
  obtain ⟨q1, M2⟩ := q
  cases p1 with
  | loc j =>
    cases q1 with
    | int i =>
      have h : (match M2[j]? with
        | some (.lst xs) => (ixN xs.length i).map fun m => (ρ, M2.set j (MO.lst (xs.set m d)))
        | _ => none) = some (ρ', M') := h
      split at h
      · rename_i xs hj
        obtain ⟨m, hm, h⟩ := map_eq h
        cases h
        refine ho.ev T B H σ ρ M _ _ _ s r hp fun o T1 B1 H1 tr1 s1 r1 => ?_
        refine hi.ev T1 B1 H1 σ ρ _ _ _ _ s1 (r.tr tr1) hq fun iv T2 B2 H2 tr2 s2 r2 => ?_
        cases r2
        cases r1.tr tr2 with
        | loc hl =>
          rename_i a
          obtain ⟨hbn, ob, h1, vs, rfl, h3⟩ := s2.live hl hj
          refine ⟨a, vs, i, m, rfl, rfl, h1, by rw [h3.len]; exact hm, ?_⟩
          obtain ⟨t3, s3⟩ := s2.put (o := .lst (vs.set m x)) (m := .lst (xs.set m d)) hl hbn ⟨_, rfl, h3.set m (rx.tr (tr1.trans tr2))⟩
          exact k _ _ _ _ ((tr1.trans tr2).trans t3) s3 (r.tr ((tr1.trans tr2).trans t3)) fun vs _ => rfl
      · cases h
    | _ => cases h
  | _ => cases h⟩
end
/-! ### what is walked -/
def Chk (src : Src) (M : Sto) : Prop := ∀ j xs, src = some (j, xs) → M[j]? = some (.lst xs)
theorem chk_none {M : Sto} : Chk none M := fun _ _ h => nomatch h
theorem chk_none' {M : Sto} : Chk none M = True := eq_true chk_none
theorem chk_some {M : Sto} {j : Nat} {xs : List D} : Chk (some (j, xs)) M = (M[j]? = some (.lst xs)) := by
  apply propext
  exact ⟨fun h => h j xs rfl, fun h j' xs' e => by cases e; exact h⟩
section
variable (K : PySem.W.Frag) (cl : Nat → Addr)
def ItOk (T : List Addr) (B H : Hp) (J : It) (src : Src) (ds : List D) : Prop := ∀ (i : Nat) T' B' H' M', Tr T B H T' B' H' → StOk K cl T' B' H' M' → Chk src M' →
  (i < ds.length → J.go i H' ∧ ∀ x H2, J.yld i H' x H2 → ∃ B2, Tr T' B' H' T' B2 H2 ∧ StOk K cl T' B2 H2 M' ∧ ∀ d, ds[i]? = some d → Rep K cl T' B2 x d) ∧ (ds.length ≤ i → J.stop i H')
def EvI (wi : TI) (F : EI) : Prop := ∀ T B H σ ρ M src ds M' (R : It → Hp → Prop), StOk K cl T B H M → Sl K cl T B σ ρ → F ρ M = some ((src, ds), M') →
  (∀ J T' B' H', Tr T B H T' B' H' → StOk K cl T' B' H' M' → Chk src M' → ItOk K cl T' B' H' J src ds → R J H') → wi σ H R
structure SdI (X : Cx) (tg e : Expr) (wi : TI) (F : EI) : Prop where
  k : X.K = K
  pe : PI X tg e wi
  ev : EvI K cl wi F
end
def iSq (A : EE) : EI := fun ρ M => (A ρ M).bind fun p => match p.1 with
  | .loc j => match p.2[j]? with
    | some (.lst xs) => some ((some (j, xs), xs), p.2)
    | _ => none
  | .lst xs => some ((none, xs), p.2)
  | .rls xs => some ((none, xs), p.2)
  | .tup xs => some ((none, xs), p.2)
  | _ => none
def rngD (lo hi : Int) : List D := (List.range (hi - lo).toNat).map fun (i : Nat) => D.int (lo + (i : Int))
def iR1 (A : EA) : EI := fun ρ M => (A ρ M).bind fun p => match p.1 with
  | [.int j] => if -(2 ^ 60) ≤ j ∧ j < 2 ^ 60 then some ((none, rngD 0 j), p.2) else none
  | _ => none
def iR2 (A : EA) : EI := fun ρ M => (A ρ M).bind fun p => match p.1 with
  | [.int i, .int j] => if -(2 ^ 60) ≤ i ∧ i < 2 ^ 60 ∧ -(2 ^ 60) ≤ j ∧ j < 2 ^ 60 then some ((none, rngD i j), p.2) else none
  | _ => none
def enumD (xs : List D) : List D := xs.mapIdx fun i x => .tup [.int (i : Nat), x]
def srcOf (M : Sto) : D → Option (Src × List D)
  | .loc j => match M[j]? with
    | some (.lst xs) => some (some (j, xs), xs)
    | _ => none
  | .lst xs => some (none, xs)
  | .rls xs => some (none, xs)
  | _ => none
def iEn (A : EA) : EI := fun ρ M => (A ρ M).bind fun p => match p.1 with
  | [a] => (srcOf p.2 a).map fun q => ((q.1, enumD q.2), p.2)
  | _ => none
def zipD (xs ys : List D) : List D := List.zipWith (fun x y => .tup [x, y]) xs ys
def iZp (A : EA) : EI := fun ρ M => (A ρ M).bind fun p => match p.1 with
  | [a, b] => match isSq a, isSq b with
    | some xs, some ys => some ((none, zipD xs ys), p.2)
    | _, _ => none
  | _ => none
section
variable {X : Cx} {K : PySem.W.Frag} {cl : Nat → Addr} {e e1 e2 tg : Expr} {es : List Expr} {t t1 t2 : TE} {ta : TA} {A C : EE} {Aa : EA} {pos p : Pos}
variable {T : List Addr} {B H : Hp} {M : Sto} {x : V} {d : D} {xs : List D}
theorem PI.or {w1 w2 : TI} (h1 : PI X tg e w1) (h2 : PI X tg e w2) : PI X tg e (fun σ H R => w1 σ H R ∨ w2 σ H R) := ⟨fun pins s σ H R I h => h.elim (h1.run pins s σ H R I) (h2.run pins s σ H R I)⟩
theorem it_lst {a : Addr} {vs : List V} (r : Reps K cl T B vs xs) (h : SqL K B a vs) : ItOk K cl T B H (Itl K a) none xs := fun i T' B' H' M' tr s _ => by
  have h' : SqL K H' a vs := s.ex.seq (tr.exB.seq h)
  refine ⟨fun hi => ?_, fun hi => ⟨vs, h', by rw [r.len]; exact hi⟩⟩
  have hi' : i < vs.length := by rw [r.len]; exact hi
  refine ⟨⟨vs, vs[i], h', List.getElem?_eq_getElem hi'⟩, fun x H2 y => ?_⟩
  obtain ⟨rfl, y⟩ := y
  exact ⟨B', .refl, s, fun d hd => (r.get i x d (y vs h') hd).tr tr⟩
theorem it_loc {j : Nat} {a : Addr} (hl : T[j]? = some a) : ItOk K cl T B H (Itl K a) (some (j, xs)) xs := fun i T' B' H' M' tr s c => by
  obtain ⟨o, h1, vs, rfl, r⟩ := s.loc (pre_get tr.pre hl) (c j xs rfl)
  have h' : SqL K H' a vs := .of h1
  refine ⟨fun hi => ?_, fun hi => ⟨vs, h', by rw [r.len]; exact hi⟩⟩
  have hi' : i < vs.length := by rw [r.len]; exact hi
  refine ⟨⟨vs, vs[i], h', List.getElem?_eq_getElem hi'⟩, fun x H2 y => ?_⟩
  obtain ⟨rfl, y⟩ := y
  exact ⟨B', .refl, s, fun d hd => r.get i x d (y vs h') hd⟩
theorem it_tup {a : Addr} {vs : List V} (r : Reps K cl T B vs xs) (h : SqT K B a vs) : ItOk K cl T B H (Itt K a) none xs := fun i T' B' H' M' tr s _ => by
  have h' : SqT K H' a vs := same_sqt s.ex (same_sqt tr.exB h)
  refine ⟨fun hi => ?_, fun hi => ⟨vs, h', by rw [r.len]; exact hi⟩⟩
  have hi' : i < vs.length := by rw [r.len]; exact hi
  refine ⟨⟨vs, vs[i], h', List.getElem?_eq_getElem hi'⟩, fun x H2 y => ?_⟩
  obtain ⟨rfl, y⟩ := y
  exact ⟨B', .refl, s, fun d hd => (r.get i x d (y vs h') hd).tr tr⟩
theorem si_sq (h : SdE X K cl e t A) : SdI K cl X tg e (fun σ H R => iList K t σ H R ∨ iTup K t σ H R) (iSq A) := ⟨h.k, h.k ▸ PI.or (pi_list h.pe) (pi_tup h.pe), fun T B H σ ρ M src ds M' R s r hh k => by
  obtain ⟨p, hp, hh⟩ := bind_eq hh
  obtain ⟨d, M1⟩ := p
  cases d with
  | loc j =>
    have hh : (match M1[j]? with
      | some (.lst xs) => some ((some (j, xs), xs), M1)
      | _ => none) = some ((src, ds), M') := hh
    split at hh
    · rename_i xs hj
      cases hh
      refine .inl (h.ev T B H σ ρ M _ _ _ s r hp fun v T1 B1 H1 tr1 s1 r1 => ?_)
      cases r1 with
      | loc hl =>
        obtain ⟨o, h1, vs, rfl, r⟩ := s1.loc hl hj
        exact ⟨_, rfl, ⟨vs, .of h1⟩, k _ _ _ _ tr1 s1 (fun _ _ e => by cases e; exact hj) (it_loc hl)⟩
    · cases hh
  | lst xs =>
    cases hh
    refine .inl (h.ev T B H σ ρ M _ _ _ s r hp fun v T1 B1 H1 tr1 s1 r1 => ?_)
    cases r1 with
    | lst hl l g => exact ⟨_, rfl, ⟨_, .of (s1.ex _ _ hl)⟩, k _ _ _ _ tr1 s1 chk_none (it_lst ⟨l, g⟩ (.of hl))⟩
  | rls xs =>
    cases hh
    refine .inl (h.ev T B H σ ρ M _ _ _ s r hp fun v T1 B1 H1 tr1 s1 r1 => ?_)
    cases r1 with
    | rls hl l g => exact ⟨_, rfl, ⟨_, s1.ex.seq hl⟩, k _ _ _ _ tr1 s1 chk_none (it_lst ⟨l, g⟩ hl)⟩
  | tup xs =>
    cases hh
    refine .inr (h.ev T B H σ ρ M _ _ _ s r hp fun v T1 B1 H1 tr1 s1 r1 => ?_)
    cases r1 with
    | tup hl l g => exact ⟨_, rfl, ⟨_, same_sqt s1.ex hl⟩, k _ _ _ _ tr1 s1 chk_none (it_tup ⟨l, g⟩ hl)⟩
  | _ => cases hh⟩
theorem rng_len (lo hi : Int) : (rngD lo hi).length = (hi - lo).toNat := by simp [rngD]
theorem it_rng (lo hi : Int) : ItOk K cl T B H (Itr lo (hi - lo).toNat) none (rngD lo hi) := fun i T' B' H' M' tr s _ => by
  rw [rng_len]
  refine ⟨fun hl => ⟨hl, fun x H2 y => ?_⟩, fun hl => hl⟩
  obtain ⟨rfl, rfl⟩ := y
  refine ⟨B', .refl, s, fun d hd => ?_⟩
  unfold rngD at hd
  rw [List.getElem?_map, List.getElem?_range hl] at hd
  cases hd
  exact .int _
theorem si_r1 (h : SdA X K cl [e] ta Aa) (hg : Gl X "range") (hm : X.mg "range" = none) (hs : starEach [e] X.env = [(false, eval e X.env)] := by rfl) : SdI K cl X tg (.Call (.Name "range" p) [e] [] pos) (iRng1 ta) (iR1 Aa) := ⟨h.k, pi_range1 hg hm h.pe hs, fun T B H σ ρ M src ds M' R s r hh k => by
  obtain ⟨p, hp, hh⟩ := bind_eq hh
  obtain ⟨es, M1⟩ := p
  dsimp only at hh
  split at hh
  · rename_i j
    split at hh
    · rename_i hz
      cases hh
      refine h.ev T B H σ ρ M _ _ _ s r hp fun vs T1 B1 H1 tr1 s1 r1 => ?_
      obtain ⟨v, vr, rfl, r2, r3⟩ := r1.cons_inv
      cases r2
      cases r3.nil_inv
      refine ⟨j, rfl, by omega, by omega, k _ _ _ _ tr1 s1 chk_none ?_⟩
      have := it_rng (K := K) (cl := cl) (T := T1) (B := B1) (H := H1) 0 j
      rwa [Int.sub_zero] at this
    · cases hh
  · cases hh⟩
theorem si_r2 (h : SdA X K cl [e1, e2] ta Aa) (hg : Gl X "range") (hm : X.mg "range" = none) (hs : starEach [e1, e2] X.env = [(false, eval e1 X.env), (false, eval e2 X.env)] := by rfl) (hs2 : starEach [e2] X.env = [(false, eval e2 X.env)] := by rfl) :
    SdI K cl X tg (.Call (.Name "range" p) [e1, e2] [] pos) (iRng2 ta) (iR2 Aa) := ⟨h.k, pi_range2 hg hm h.pe hs hs2, fun T B H σ ρ M src ds M' R s r hh k => by
  obtain ⟨p, hp, hh⟩ := bind_eq hh
  obtain ⟨es, M1⟩ := p
  dsimp only at hh
  split at hh
  · rename_i i j
    split at hh
    · rename_i hz
      cases hh
      refine h.ev T B H σ ρ M _ _ _ s r hp fun vs T1 B1 H1 tr1 s1 r1 => ?_
      obtain ⟨v, vr, rfl, r2, r3⟩ := r1.cons_inv
      obtain ⟨w, wr, rfl, r4, r5⟩ := r3.cons_inv
      cases r2
      cases r4
      cases r5.nil_inv
      exact ⟨i, j, rfl, by omega, k _ _ _ _ tr1 s1 chk_none (it_rng i j)⟩
    · cases hh
  · cases hh⟩
theorem enum_get {i : Nat} {d : D} (h : (enumD xs)[i]? = some d) : ∃ x, xs[i]? = some x ∧ d = .tup [.int (i : Nat), x] := by
  unfold enumD at h
  rw [List.getElem?_mapIdx] at h
  obtain ⟨x, h1, h2⟩ := map_eq h
  exact ⟨x, h1, h2.symm⟩
theorem it_enum {a : Addr} {src : Src} (hq : ∀ T' B' H' M', Tr T B H T' B' H' → StOk K cl T' B' H' M' → Chk src M' → ∃ vs, SqL K H' a vs ∧ Reps K cl T' B' vs xs) : ItOk K cl T B H (Ite K a) src (enumD xs) := fun i T' B' H' M' tr s c => by
  obtain ⟨vs, h', r⟩ := hq T' B' H' M' tr s c
  have el : (enumD xs).length = xs.length := by simp [enumD]
  rw [el]
  refine ⟨fun hi => ?_, fun hi => ⟨vs, h', by rw [r.len]; exact hi⟩⟩
  have hi' : i < vs.length := by rw [r.len]; exact hi
  refine ⟨⟨vs, vs[i], h', List.getElem?_eq_getElem hi'⟩, fun v H2 y => ?_⟩
  obtain ⟨t, x, rfl, hn, rfl, y⟩ := y
  obtain ⟨t1, s1⟩ := s.alloc hn (.tup [.int (i : Nat), x])
  refine ⟨_, t1, s1, fun d hd => ?_⟩
  obtain ⟨z, h1, rfl⟩ := enum_get hd
  have rx := (r.get i x z (y vs h') h1).tr t1
  have rr : Reps K cl T' (upd B' t (.tup [.int (i : Nat), x])) [.int (i : Nat), x] [.int (i : Nat), z] := .cons (.int _) (.cons rx .nil)
  exact .tup (.of upd_same) rr.len rr.get
theorem si_enum {elts : List Expr} {kk : Nat} {tpos : Pos} (h : SdA X K cl [e] ta Aa) (hg : Gl X "enumerate") (hm : X.mg "enumerate" = none) (hs : starEach [e] X.env = [(false, eval e X.env)] := by rfl) :
    SdI K cl X (.Tuple elts kk tpos) (.Call (.Name "enumerate" p) [e] [] pos) (iEnum K ta) (iEn Aa) := ⟨h.k, h.k ▸ pi_enum hg hm h.pe hs, fun T B H σ ρ M src ds M' R s r hh k => by
  obtain ⟨p, hp, hh⟩ := bind_eq hh
  obtain ⟨es, M1⟩ := p
  dsimp only at hh
  split at hh
  · rename_i a
    obtain ⟨q, hq, hh⟩ := map_eq hh
    cases hh
    refine h.ev T B H σ ρ M _ _ _ s r hp fun vs T1 B1 H1 tr1 s1 r1 => ?_
    obtain ⟨v, vr, rfl, r2, r3⟩ := r1.cons_inv
    cases r3.nil_inv
    unfold srcOf at hq
    split at hq
    · rename_i j
      split at hq
      · rename_i xs hj
        cases hq
        cases r2 with
        | loc hl =>
          obtain ⟨o, h1, vs, rfl, r⟩ := s1.loc hl hj
          refine ⟨_, _, rfl, .of h1, k _ _ _ _ tr1 s1 (fun _ _ e => by cases e; exact hj) (it_enum fun T' B' H' M' tr s c => ?_)⟩
          obtain ⟨o, h1, vs, rfl, r⟩ := s.loc (pre_get tr.pre hl) (c j xs rfl)
          exact ⟨vs, .of h1, r⟩
      · cases hq
    · cases hq
      cases r2 with
      | lst hl l g => exact ⟨_, _, rfl, .of (s1.ex _ _ hl), k _ _ _ _ tr1 s1 chk_none (it_enum fun T' B' H' M' tr s c => ⟨_, .of (s.ex _ _ (tr.exB _ _ hl)), Reps.tr ⟨l, g⟩ tr⟩)⟩
    · cases hq
      cases r2 with
      | rls hl l g => exact ⟨_, _, rfl, s1.ex.seq hl, k _ _ _ _ tr1 s1 chk_none (it_enum fun T' B' H' M' tr s c => ⟨_, s.ex.seq (tr.exB.seq hl), Reps.tr ⟨l, g⟩ tr⟩)⟩
    · cases hq
  · cases hh⟩
theorem isSq_rep (r : Rep K cl T B x d) (h : isSq d = some xs) : ∃ p vs, x = .ref p ∧ SqL K B p vs ∧ Reps K cl T B vs xs := by
  cases d with
  | lst ys => cases h; cases r with | lst hl l g => exact ⟨_, _, rfl, .of hl, ⟨l, g⟩⟩
  | rls ys => cases h; cases r with | rls hl l g => exact ⟨_, _, rfl, hl, ⟨l, g⟩⟩
  | _ => cases h
theorem si_zip {elts : List Expr} {kk : Nat} {tpos : Pos} (h : SdA X K cl [e1, e2] ta Aa) (hg : Gl X "zip") (hm : X.mg "zip" = none) (hs : starEach [e1, e2] X.env = (false, eval e1 X.env) :: starEach [e2] X.env := by rfl) (hpl : (backTo pos (starEach [e2] X.env)).any (·.1) = false := by rfl) :
    SdI K cl X (.Tuple elts kk tpos) (.Call (.Name "zip" p) [e1, e2] [] pos) (iZip K ta) (iZp Aa) := ⟨h.k, h.k ▸ pi_zip hg hm h.pe hs hpl, fun T B H σ ρ M src ds M' R s r hh k => by
  obtain ⟨p, hp, hh⟩ := bind_eq hh
  obtain ⟨es, M1⟩ := p
  dsimp only at hh
  split at hh
  · rename_i a b
    split at hh
    · rename_i xs ys hx hy
      cases hh
      refine h.ev T B H σ ρ M _ _ _ s r hp fun vs T1 B1 H1 tr1 s1 r1 => ?_
      obtain ⟨v, vr, rfl, r2, r3⟩ := r1.cons_inv
      obtain ⟨w, wr, rfl, r4, r5⟩ := r3.cons_inv
      cases r5.nil_inv
      obtain ⟨p, vs, rfl, q1, q2⟩ := isSq_rep r2 hx
      obtain ⟨q, ws, rfl, g1, g2⟩ := isSq_rep r4 hy
      refine ⟨p, q, vs, ws, rfl, s1.ex.seq q1, s1.ex.seq g1, k _ _ _ _ tr1 s1 chk_none fun i T' B' H' M' tr s _ => ?_⟩
      have h1 : SqL K H' p vs := s.ex.seq (tr.exB.seq q1)
      have h2 : SqL K H' q ws := s.ex.seq (tr.exB.seq g1)
      have zl : (zipD xs ys).length = min vs.length ws.length := by simp [zipD, q2.len, g2.len]
      rw [zl]
      refine ⟨fun hi => ?_, fun hi => ⟨vs, ws, h1, h2, by omega⟩⟩
      have hv : i < vs.length := by omega
      have hw : i < ws.length := by omega
      refine ⟨⟨vs, ws, vs[i], ws[i], h1, h2, List.getElem?_eq_getElem hv, List.getElem?_eq_getElem hw⟩, fun v H2 y => ?_⟩
      obtain ⟨t, x, y, rfl, hn, rfl, y1, y2⟩ := y
      obtain ⟨t1, s2⟩ := s.alloc hn (.tup [x, y])
      refine ⟨_, t1, s2, fun d hd => ?_⟩
      unfold zipD at hd
      rw [List.getElem?_zipWith] at hd
      obtain ⟨dx, e1, rx⟩ := (q2.tr tr).atV (y1 vs h1)
      obtain ⟨dy, e2, ry⟩ := (g2.tr tr).atV (y2 ws h2)
      rw [e1, e2] at hd
      cases hd
      have rr : Reps K cl T' (upd B' t (.tup [x, y])) [x, y] [dx, dy] := .cons (rx.tr t1) (.cons (ry.tr t1) .nil)
      exact .tup (.of upd_same) rr.len rr.get
    · cases hh
  · cases hh⟩
end
end Y
set_option Elab.async false
set_option linter.all false
set_option maxRecDepth 100000
set_option maxHeartbeats 4000000
namespace Y
open PySem PySem.Spec PyProof.Rows L2
/-! ### comprehensions -/
def wipeD (ρ : Rho) : List Nat → Rho
  | [] => ρ
  | v :: vs => (wipeD ρ vs).set v none
noncomputable def lcGo (G : EG) (F : ET) (E : EE) (src : Src) (ρ : Rho) : List D → List D → Sto → Option (List D × Sto)
  | [], acc, M => some (acc, M)
  | d :: r, acc, M => (G d ρ M).bind fun p => (F p.1 p.2).bind fun q =>
    if q.1 = true then (E p.1 q.2).bind fun y => @ite _ (Chk src y.2) (Classical.propDecidable _) (lcGo G F E src ρ r (acc ++ [y.1]) y.2) none
    else @ite _ (Chk src q.2) (Classical.propDecidable _) (lcGo G F E src ρ r acc q.2) none
noncomputable def lLc (I : EI) (G : EG) (F : ET) (E : EE) (vs : List Nat) : EA := fun ρ M => (I ρ M).bind fun p =>
  if p.1.2.length ≤ 1000000 then lcGo G F E p.1.1 (wipeD ρ vs) p.1.2 [] p.2 else none
def bYes : ET := fun _ M => some (true, M)
section
variable {X : Cx} {K : PySem.W.Frag} {cl : Nat → Addr} {T : List Addr} {B H : Hp} {σ : L2.St} {ρ : Rho}
theorem wipeD_length (ρ : Rho) : ∀ vs : List Nat, (wipeD ρ vs).length = ρ.length
  | [] => rfl
  | v :: vs => by unfold wipeD; rw [List.length_set, wipeD_length ρ vs]
theorem wipeD_some {i : Nat} {x : D} : ∀ {vs : List Nat}, (wipeD ρ vs)[i]? = some (some x) → ρ[i]? = some (some x) ∧ i ∉ vs
  | [], h => ⟨h, by simp⟩
  | v :: vs, h => by
    unfold wipeD at h
    by_cases hi : v = i
    · subst hi
      by_cases hv : v < (wipeD ρ vs).length
      · rw [List.getElem?_set_self hv] at h; cases h
      · rw [List.getElem?_eq_none (by simpa using hv)] at h; cases h
    · rw [List.getElem?_set_ne hi] at h
      obtain ⟨h1, h2⟩ := wipeD_some h
      exact ⟨h1, by simp only [List.mem_cons, not_or]; exact ⟨fun e => hi e.symm, h2⟩⟩
theorem Sl.wipe (r : Sl K cl T B σ ρ) (vs : List Nat) : Sl K cl T B (wipe σ vs) (wipeD ρ vs) := ⟨by rw [wipe_length, wipeD_length]; exact r.len, fun i d h => by
  obtain ⟨h1, h2⟩ := wipeD_some h
  obtain ⟨v, hv, rv⟩ := r.get i d h1
  exact ⟨v, by rw [wipe_out h2]; exact hv, rv⟩⟩
structure SdTs (X : Cx) (K : PySem.W.Frag) (cl : Nat → Addr) (es : List Expr) (t : TT) (F : ET) : Prop where
  k : X.K = K
  pe : PTs X es t
  ev : EvT K cl t F
theorem sts_nil (hk : X.K = K := by rfl) : SdTs X K cl [] tYes bYes := ⟨hk, pts_nil, fun T B H σ ρ M b M' Q s r h k => by
  cases h
  exact k _ _ _ .refl s⟩
theorem sts_one {e : Expr} {t : TT} {F : ET} (h : SdT X K cl e t F) : SdTs X K cl [e] t F := ⟨h.k, pts_one h.pe, h.ev⟩
/-- the turns of a comprehension -/
theorem EvL.lc {wi : TI} {g : TG} {tt : TT} {te : TE} {I : EI} {G : EG} {F : ET} {E : EE} {js vs : List Nat} (hi : EvI K cl wi I) (hg : EvG K cl js g G) (ht : EvT K cl tt F) (he : EvE K cl te E) (hj : ∀ j ∈ js, j ∈ vs) : EvL K cl (tLc wi g tt te vs) (lLc I G F E vs) := fun T B H σ ρ M ds M' Q s r h k => by
  obtain ⟨p, hp, h⟩ := bind_eq h
  obtain ⟨⟨src, xs⟩, M1⟩ := p
  split at h
  case isFalse => cases h
  rename_i hz
  have hz : xs.length ≤ 1000000 := hz
  refine hi T B H σ ρ M _ _ _ _ s r hp fun J T1 B1 H1 tr1 s1 c1 it => ?_
  intro Dl hD
  have rw' := (r.tr tr1).wipe vs
  refine ⟨fun i m H' => m + i = xs.length ∧ i ≤ xs.length ∧ ∃ T' B' M2 acc av, Tr T1 B1 H1 T' B' H' ∧ StOk K cl T' B' H' M2 ∧ Chk src M2 ∧ Dl ∉ T' ∧ B' Dl = none ∧ H' Dl = some (.lst av) ∧ Reps K cl T' B' av acc ∧ acc.length ≤ i ∧ lcGo G F E src (wipeD ρ vs) (xs.drop i) acc M2 = some (ds, M'),
    ⟨xs.length, by omega, Nat.zero_le _, T1, B1, M1, [], [], Tr.refl.junk hD, s1.junk (s1.notin hD) (s1.ex.free hD), c1, s1.notin hD, s1.ex.free hD, upd_same, .nil, Nat.zero_le _, h⟩, ?_⟩
  rintro i m H' ⟨hm, hi', T', B', M2, acc, av, tr2, s2, c2, d1, d2, d3, ra, hl, go⟩
  obtain ⟨it1, it2⟩ := it i T' B' H' M2 tr2 s2 c2
  by_cases hlt : i < xs.length
  · obtain ⟨jg, jy⟩ := it1 hlt
    refine .inr ⟨jg, fun H' => ∃ m', m' < m ∧ (m' + (i + 1) = xs.length ∧ i + 1 ≤ xs.length ∧ ∃ T' B' M2 acc av, Tr T1 B1 H1 T' B' H' ∧ StOk K cl T' B' H' M2 ∧ Chk src M2 ∧ Dl ∉ T' ∧ B' Dl = none ∧ H' Dl = some (.lst av) ∧ Reps K cl T' B' av acc ∧ acc.length ≤ i + 1 ∧ lcGo G F E src (wipeD ρ vs) (xs.drop (i + 1)) acc M2 = some (ds, M')), fun H' z => z, fun x H2 y => ?_⟩
    obtain ⟨B2, tr3, s3, rx⟩ := jy x H2 y
    have hx : xs[i]? = some xs[i] := List.getElem?_eq_getElem hlt
    rw [List.drop_eq_getElem_cons hlt] at go
    obtain ⟨p, hp, go⟩ := bind_eq go
    obtain ⟨q, hq, go⟩ := bind_eq go
    obtain ⟨f1, f2, f3⟩ := tr3.fr Dl _ d3 d1
    refine hg T' B2 H2 _ (wipeD ρ vs) M2 x xs[i] _ _ _ s3 (rw'.tr (tr2.trans tr3)) (rx _ hx) hp fun T4 B4 H4 σ4 tr4 s4 sl4 w4 => ?_
    refine ⟨(w4 vs hj).trans wipe_wipe, ?_⟩
    obtain ⟨g1, g2, g3⟩ := tr4.fr Dl _ f1 f2
    refine ht T4 B4 H4 σ4 _ _ _ _ _ s4 sl4 hq fun T5 B5 H5 tr5 s5 => ?_
    obtain ⟨k1, k2, k3⟩ := tr5.fr Dl _ g1 g2
    have n5 : B5 Dl = none := k3 (g3 (f3 d2))
    split at go
    · rename_i hb
      rw [if_pos hb]
      obtain ⟨y, hy, go⟩ := bind_eq go
      refine he T5 B5 H5 σ4 _ _ _ _ _ s5 (sl4.tr tr5) hy fun v T6 B6 H6 tr6 s6 r6 => ?_
      obtain ⟨l1, l2, l3⟩ := tr6.fr Dl _ k1 k2
      have tr16 := (((tr2.trans tr3).trans tr4).trans tr5).trans tr6
      split at go
      · rename_i hc
        refine ⟨av, l1, lim_lt (by rw [ra.len]; omega), m - 1, by omega, by omega, by omega, T6, B6, y.2, acc ++ [y.1], av ++ [v], tr16.junk hD, s6.junk l2 (l3 n5), hc, l2, l3 n5, upd_same, ?_, by simp; omega, go⟩
        exact (ra.tr (((tr3.trans tr4).trans tr5).trans tr6)).append (.cons r6 .nil)
      · cases go
    · rename_i hb
      rw [if_neg hb]
      split at go
      · rename_i hc
        exact ⟨m - 1, by omega, by omega, by omega, T5, B5, q.2, acc, av, ((tr2.trans tr3).trans tr4).trans tr5, s5, hc, k2, n5, k1, ra.tr ((tr3.trans tr4).trans tr5), by omega, go⟩
      · cases go
  · have hl0 : xs.length ≤ i := by omega
    refine .inl ⟨it2 hl0, ?_⟩
    rw [List.drop_of_length_le hl0] at go
    cases go
    refine k Dl av T' B' (off H' Dl) off_same (tr1.trans (tr2.off hD)) (s2.off d1 d2) ra H' (fun a ha => (off_ne ha).symm) d3
theorem sdl_lc (N : List Str) (sc : Scope) (own : List (Str × Nat)) {elt tg iter : Expr} {ifs : List Expr} {scope : Scope} {pos : Pos} {wi : TI} {g : TG} {tt : TT} {te : TE} {I : EI} {G : EG} {F : ET} {E : EE} {js : List Nat} (hN : X.N.Nodup) (hi : SdI K cl X tg iter wi I) (ok : blkC N sc scope own = true)
    (hg : ∀ (s : Shared) (H : Hp) (C : Addr) (c : List (Str × Addr)) (fp : List Addr), SdG K cl (X.blk s H scope (compEnvC scope c C X.env) fp) tg js g G) (ht : ∀ (s : Shared) (H : Hp) (C : Addr) (c : List (Str × Addr)) (fp : List Addr), SdTs (X.blk s H scope (compEnvC scope c C X.env) fp) K cl ifs tt F)
    (he : ∀ (s : Shared) (H : Hp) (C : Addr) (c : List (Str × Addr)) (fp : List Addr), SdE (X.blk s H scope (compEnvC scope c C X.env) fp) K cl elt te E) (hj : ∀ j ∈ js, j ∈ own.map (·.2)) (hc : X.calm = true := by rfl) (h0 : X.N = N := by rfl) (h1 : X.env.scope = sc := by rfl) (hs : ∀ x, foldedSetIterable iter X.env x = pure x := by intro _; rfl) :
    SdL X K cl (.ListComp elt [⟨tg, iter, ifs, 0⟩] scope pos) (tLc wi g tt te (own.map (·.2))) (lLc I G F E (own.map (·.2))) :=
  ⟨hi.k, pe_lc hc hN hi.pe (by rw [h0, h1]; exact blkOk_by ok) (fun s H C c fp => (hg s H C c fp).pe) (fun s H C c fp => (ht s H C c fp).pe) (fun s H C c fp => (he s H C c fp).pe) hs,
    .lc hi.ev (hg X.s_0 X.H_0 0 [] []).ev (ht X.s_0 X.H_0 0 [] []).ev (he X.s_0 X.H_0 0 [] []).ev hj⟩
end
/-! ### statements -/
inductive Fl where
  | nx (ρ : Rho) | rt (d : D) | bk (ρ : Rho) | ct (ρ : Rho)
abbrev ES := Rho → Sto → Option (Fl × Sto)
section
variable (K : PySem.W.Frag) (cl : Nat → Addr)
def PostN (T : List Addr) (B H : Hp) (M' : Sto) (ρ' : Rho) (N : L2.St → Hp → Prop) : Prop := ∀ T' B' H' σ', Tr T B H T' B' H' → StOk K cl T' B' H' M' → Sl K cl T' B' σ' ρ' → N σ' H'
def PostF (T : List Addr) (B H : Hp) (M' : Sto) (Dn : Ends) : Fl → Prop
  | .nx ρ' => PostN K cl T B H M' ρ' Dn.nx
  | .bk ρ' => PostN K cl T B H M' ρ' Dn.bk
  | .ct ρ' => PostN K cl T B H M' ρ' Dn.ct
  | .rt d => Kon K cl T B H M' d Dn.rt
def EvS (t : TS) (F : ES) : Prop := ∀ T B H σ ρ M f M' (Dn : Ends), StOk K cl T B H M → Sl K cl T B σ ρ → F ρ M = some (f, M') → PostF K cl T B H M' Dn f → t Dn σ H
structure SdS (X : Cx) (st : Stmt) (t : TS) (F : ES) : Prop where
  k : X.K = K
  pe : PS X st t
  ev : EvS K cl t F
structure SdB (X : Cx) (st : List Stmt) (t : TS) (F : ES) : Prop where
  k : X.K = K
  pe : PSs X st t
  ev : EvS K cl t F
end
def sNext : ES := fun ρ M => some (.nx ρ, M)
def sSeq (A C : ES) : ES := fun ρ M => (A ρ M).bind fun p => match p.1 with
  | .nx ρ1 => C ρ1 p.2
  | f => some (f, p.2)
def sAsg (E : EE) (G : EG) : ES := fun ρ M => (E ρ M).bind fun p => (G p.1 ρ p.2).map fun q => (.nx q.1, q.2)
def sDrop (E : EE) : ES := fun ρ M => (E ρ M).map fun p => (.nx ρ, p.2)
def sRet (E : EE) : ES := fun ρ M => (E ρ M).map fun p => (.rt p.1, p.2)
def sRetN : ES := fun _ M => some (.rt .non, M)
def sIf (c : ET) (A C : ES) : ES := fun ρ M => (c ρ M).bind fun p => if p.1 = true then A ρ p.2 else C ρ p.2
def sBrk : ES := fun ρ M => some (.bk ρ, M)
def sCnt : ES := fun ρ M => some (.ct ρ, M)
def sNever : ES := fun _ _ => none
noncomputable def forGo (G : EG) (b : ES) (src : Src) : List D → Rho → Sto → Option (Fl × Sto)
  | [], ρ, M => some (.nx ρ, M)
  | d :: r, ρ, M => (G d ρ M).bind fun p => (b p.1 p.2).bind fun q => match q.1 with
    | .nx ρ1 => @ite _ (Chk src q.2) (Classical.propDecidable _) (forGo G b src r ρ1 q.2) none
    | .ct ρ1 => @ite _ (Chk src q.2) (Classical.propDecidable _) (forGo G b src r ρ1 q.2) none
    | .bk ρ1 => some (.nx ρ1, q.2)
    | .rt d => some (.rt d, q.2)
noncomputable def sFor (I : EI) (G : EG) (b : ES) : ES := fun ρ M => (I ρ M).bind fun p => forGo G b p.1.1 p.1.2 ρ p.2
def wGo (c : ET) (b : ES) : Nat → Rho → Sto → Option (Fl × Sto)
  | 0, _, _ => none
  | n + 1, ρ, M => (c ρ M).bind fun p => if p.1 = true then (b ρ p.2).bind fun q => match q.1 with
      | .nx ρ1 => wGo c b n ρ1 q.2
      | .ct ρ1 => wGo c b n ρ1 q.2
      | .bk ρ1 => some (.nx ρ1, q.2)
      | .rt d => some (.rt d, q.2)
    else some (.nx ρ, p.2)
noncomputable def sWhile (c : ET) (b : ES) : ES := fun ρ M => @dite _ (∃ n r, wGo c b n ρ M = some r) (Classical.propDecidable _) (fun h => wGo c b (Classical.choose h) ρ M) (fun _ => none)
theorem wGo_mono {c : ET} {b : ES} : ∀ {n m : Nat} {ρ : Rho} {M : Sto} {r : Fl × Sto}, n ≤ m → wGo c b n ρ M = some r → wGo c b m ρ M = some r
  | 0, _, _, _, _, _, h => by cases h
  | n + 1, 0, _, _, _, h, _ => by omega
  | n + 1, m + 1, ρ, M, r, hnm, h => by
    unfold wGo at h ⊢
    obtain ⟨p, hp, h⟩ := bind_eq h
    rw [hp]
    show (if p.1 = true then _ else _) = _
    split at h
    · rename_i hb
      rw [if_pos hb]
      obtain ⟨q, hq, h⟩ := bind_eq h
      rw [hq]
      obtain ⟨f, M2⟩ := q
      cases f with
      | nx ρ1 => exact wGo_mono (by omega) h
      | ct ρ1 => exact wGo_mono (by omega) h
      | bk ρ1 => exact h
      | rt d => exact h
    · rename_i hb
      rw [if_neg hb]
      exact h
theorem sWhile_of {c : ET} {b : ES} {n : Nat} {ρ : Rho} {M : Sto} {r : Fl × Sto} (h : wGo c b n ρ M = some r) : sWhile c b ρ M = some r := by
  have hx : ∃ n r, wGo c b n ρ M = some r := ⟨n, r, h⟩
  unfold sWhile
  rw [dif_pos hx]
  obtain ⟨r', h'⟩ := Classical.choose_spec hx
  rw [h']
  by_cases hle : n ≤ Classical.choose hx
  · exact h'.symm.trans (wGo_mono hle h)
  · exact (wGo_mono (Nat.le_of_not_le hle) h').symm.trans h
theorem sWhile_has {c : ET} {b : ES} {ρ : Rho} {M : Sto} {r : Fl × Sto} (h : sWhile c b ρ M = some r) : ∃ n, wGo c b n ρ M = some r := by
  unfold sWhile at h
  split at h
  · exact ⟨_, h⟩
  · cases h
section
variable {X : Cx} {K : PySem.W.Frag} {cl : Nat → Addr} {T T' : List Addr} {B B' H H' : Hp} {M M' : Sto} {Dn : Ends} {f : Fl} {e tg : Expr} {st : Stmt} {sts body orelse : List Stmt} {pos : Pos} {te : TE} {E : EE} {g : TG} {G : EG} {js : List Nat} {t u : TS} {F A : ES} {tt : TT} {c : ET} {wi : TI} {I : EI}
theorem PostF.tr (tr : Tr T B H T' B' H') (h : PostF K cl T B H M' Dn f) : PostF K cl T' B' H' M' Dn f := by
  cases f with
  | nx ρ => exact fun T2 B2 H2 σ2 t2 => h T2 B2 H2 σ2 (tr.trans t2)
  | bk ρ => exact fun T2 B2 H2 σ2 t2 => h T2 B2 H2 σ2 (tr.trans t2)
  | ct ρ => exact fun T2 B2 H2 σ2 t2 => h T2 B2 H2 σ2 (tr.trans t2)
  | rt d => exact fun v T2 B2 H2 t2 => h v T2 B2 H2 (tr.trans t2)
theorem sb_nil (hk : X.K = K := by rfl) : SdB K cl X [] tNext sNext := ⟨hk, pss_nil, fun T B H σ ρ M f M' Dn s r h k => by
  cases h
  exact k _ _ _ _ .refl s r⟩
theorem EvS.seq (h1 : EvS K cl t F) (h2 : EvS K cl u A) : EvS K cl (tSeq t u) (sSeq F A) := fun T B H σ ρ M f M' Dn s r h k => by
  obtain ⟨p, hp, h⟩ := bind_eq h
  obtain ⟨f1, M1⟩ := p
  refine h1 T B H σ ρ M f1 M1 _ s r hp ?_
  cases f1 with
  | nx ρ1 => exact fun T' B' H' σ' tr' s' r' => h2 T' B' H' σ' ρ1 M1 f M' Dn s' r' h (k.tr tr')
  | bk ρ1 => cases h; exact k
  | ct ρ1 => cases h; exact k
  | rt d => cases h; exact k
theorem sb_cons (h1 : SdS K cl X st t F) (h2 : SdB K cl X sts u A) : SdB K cl X (st :: sts) (tSeq t u) (sSeq F A) := ⟨h1.k, pss_cons h1.pe h2.pe, h1.ev.seq h2.ev⟩
theorem sb_one (h1 : SdS K cl X st t F) : SdB K cl X [st] t F := ⟨h1.k, pss_one h1.pe, h1.ev⟩
theorem EvE.asg (h1 : EvE K cl te E) (h2 : EvG K cl js g G) : EvS K cl (tAsg te g) (sAsg E G) := fun T B H σ ρ M f M' Dn s r h k => by
  obtain ⟨p, hp, h⟩ := bind_eq h
  obtain ⟨q, hq, h⟩ := map_eq h
  cases h
  refine h1 T B H σ ρ M _ _ _ s r hp fun v T1 B1 H1 tr1 s1 r1 => ?_
  exact h2 T1 B1 H1 σ ρ _ v _ _ _ _ s1 (r.tr tr1) r1 hq fun T2 B2 H2 σ2 tr2 s2 r2 _ => k T2 B2 H2 σ2 (tr1.trans tr2) s2 r2
theorem ss_asg (h1 : SdE X K cl e te E) (h2 : SdG K cl X tg js g G) (hs : swapsWithSole [tg] e pos.line X.env = pure false := by rfl) (hw : swappedStores [tg] e X.env = pure none := by rfl) (ha : (assignEach [tg] X.env).map (·.2) = [assign tg X.env] := by rfl) :
    SdS K cl X (.Assign [tg] e pos) (tAsg te g) (sAsg E G) := ⟨h1.k, ps_asg h1.pe h2.pe hs hw ha, h1.ev.asg h2.ev⟩
theorem ss_set (i : Nat) {x : Str} {pos' : Pos} (hN : X.N.Nodup) (h1 : SdE X K cl e te E) (hi : X.N[i]? = some x := by rfl) (hx : Loc X.env.scope x := by first | exact Or.inl rfl | exact Or.inr rfl) (hs : swapsWith e (some (.Name x pos')) pos.line X.env = pure false := by rfl) (hf : X.fn x = true ∨ X.env.scope.names.lookup x = some .local := by first | exact .inl rfl | exact .inr rfl | assumption) :
    SdS K cl X (.Assign [.Name x pos'] e pos) (tAsg te (gName i)) (sAsg E (gN i)) := ⟨h1.k, ps_set hN hi hx h1.pe hs hf, h1.ev.asg (sg_name (pos := pos') (K := K) (cl := cl) i hN hi hx hf h1.k).ev⟩
theorem ss_expr (h1 : SdE X K cl e te E) (hs : swapsWith e none pos.line X.env = pure false := by rfl) : SdS K cl X (.Expr e pos) (tDrop te) (sDrop E) := ⟨h1.k, ps_expr h1.pe hs, fun T B H σ ρ M f M' Dn s r h k => by
  obtain ⟨p, hp, h⟩ := map_eq h
  cases h
  exact h1.ev T B H σ ρ M _ _ _ s r hp fun v T1 B1 H1 tr1 s1 r1 => k T1 B1 H1 σ tr1 s1 (r.tr tr1)⟩
theorem ss_ret (h1 : SdE X K cl e te E) : SdS K cl X (.Return (some e) pos) (tRet te) (sRet E) := ⟨h1.k, ps_ret h1.pe, fun T B H σ ρ M f M' Dn s r h k => by
  obtain ⟨p, hp, h⟩ := map_eq h
  cases h
  exact h1.ev T B H σ ρ M _ _ _ s r hp k⟩
theorem ss_retN (hk : X.K = K := by rfl) : SdS K cl X (.Return none pos) tRetN sRetN := ⟨hk, ps_retN, fun T B H σ ρ M f M' Dn s r h k => by
  cases h
  exact k _ _ _ _ .refl s .non⟩
theorem ss_if (hc : SdT X K cl e tt c) (ha : SdB K cl X body t F) (hb : SdB K cl X orelse u A) : SdS K cl X (.If e body orelse pos) (tIfS tt t u) (sIf c F A) := ⟨hc.k, ps_if hc.pe ha.pe hb.pe, fun T B H σ ρ M f M' Dn s r h k => by
  obtain ⟨p, hp, h⟩ := bind_eq h
  refine hc.ev T B H σ ρ M _ _ _ s r hp fun T1 B1 H1 tr1 s1 => ?_
  split at h
  · rename_i hb
    rw [if_pos hb]
    exact ha.ev T1 B1 H1 σ ρ _ f M' Dn s1 (r.tr tr1) h (k.tr tr1)
  · rename_i hb'
    rw [if_neg hb']
    exact hb.ev T1 B1 H1 σ ρ _ f M' Dn s1 (r.tr tr1) h (k.tr tr1)⟩
theorem ss_pass (hk : X.K = K := by rfl) : SdS K cl X (.Pass pos) tNext sNext := ⟨hk, ps_pass, fun T B H σ ρ M f M' Dn s r h k => by
  cases h
  exact k _ _ _ _ .refl s r⟩
theorem ss_break (hk : X.K = K := by rfl) : SdS K cl X (.Break pos) tBreak sBrk := ⟨hk, ps_break, fun T B H σ ρ M f M' Dn s r h k => by
  cases h
  exact k _ _ _ _ .refl s r⟩
theorem ss_cont (hk : X.K = K := by rfl) : SdS K cl X (.Continue pos) tCont sCnt := ⟨hk, ps_continue, fun T B H σ ρ M f M' Dn s r h k => by
  cases h
  exact k _ _ _ _ .refl s r⟩
theorem ss_never (hk : X.K = K := by rfl) : SdS K cl X st tNever sNever := ⟨hk, ps_never, fun T B H σ ρ M f M' Dn s r h k => by cases h⟩
theorem EvS.forI (hi : EvI K cl wi I) (hg : EvG K cl js g G) (hb : EvS K cl t F) : EvS K cl (tFor wi g t) (sFor I G F) := fun T B H σ ρ M f M' Dn s r h k => by
  obtain ⟨p, hp, h⟩ := bind_eq h
  obtain ⟨⟨src, xs⟩, M1⟩ := p
  refine hi T B H σ ρ M _ _ _ _ s r hp fun J T1 B1 H1 tr1 s1 c1 it => ?_
  refine ⟨fun i m σ' H' => m + i = xs.length ∧ ∃ T' B' ρ' M2, Tr T1 B1 H1 T' B' H' ∧ StOk K cl T' B' H' M2 ∧ Sl K cl T' B' σ' ρ' ∧ Chk src M2 ∧ forGo G F src (xs.drop i) ρ' M2 = some (f, M'), ⟨xs.length, by omega, T1, B1, ρ, M1, .refl, s1, r.tr tr1, c1, h⟩, ?_⟩
  rintro i m σ' H' ⟨hm, T', B', ρ', M2, tr2, s2, r2, c2, go⟩
  obtain ⟨it1, it2⟩ := it i T' B' H' M2 tr2 s2 c2
  have k2 := k.tr (tr1.trans tr2)
  by_cases hlt : i < xs.length
  · obtain ⟨jg, jy⟩ := it1 hlt
    refine .inr ⟨jg, fun σ' H' => ∃ m', m' < m ∧ (m' + (i + 1) = xs.length ∧ ∃ T' B' ρ' M2, Tr T1 B1 H1 T' B' H' ∧ StOk K cl T' B' H' M2 ∧ Sl K cl T' B' σ' ρ' ∧ Chk src M2 ∧ forGo G F src (xs.drop (i + 1)) ρ' M2 = some (f, M')), fun _ _ z => z, fun x H3 y => ?_⟩
    obtain ⟨B3, tr3, s3, rx⟩ := jy x H3 y
    have hx : xs[i]? = some xs[i] := List.getElem?_eq_getElem hlt
    rw [List.drop_eq_getElem_cons hlt] at go
    obtain ⟨p, hp, go⟩ := bind_eq go
    obtain ⟨q, hq, go⟩ := bind_eq go
    refine hg T' B3 H3 σ' ρ' M2 x xs[i] _ _ _ s3 (r2.tr tr3) (rx _ hx) hp fun T4 B4 H4 σ4 tr4 s4 sl4 _ => ?_
    obtain ⟨fl, M5⟩ := q
    refine hb T4 B4 H4 σ4 _ _ fl M5 _ s4 sl4 hq ?_
    have tr24 := (tr2.trans tr3).trans tr4
    cases fl with
    | nx ρ1 =>
      intro T5 B5 H5 σ5 tr5 s5 sl5
      dsimp only at go
      split at go
      · rename_i hc
        exact ⟨m - 1, by omega, by omega, T5, B5, ρ1, M5, tr24.trans tr5, s5, sl5, hc, go⟩
      · cases go
    | ct ρ1 =>
      intro T5 B5 H5 σ5 tr5 s5 sl5
      dsimp only at go
      split at go
      · rename_i hc
        exact ⟨m - 1, by omega, by omega, T5, B5, ρ1, M5, tr24.trans tr5, s5, sl5, hc, go⟩
      · cases go
    | bk ρ1 =>
      cases go
      exact fun T5 B5 H5 σ5 tr5 s5 sl5 => k2 T5 B5 H5 σ5 ((tr3.trans tr4).trans tr5) s5 sl5
    | rt d =>
      cases go
      exact fun v T5 B5 H5 tr5 s5 sl5 => k2 v T5 B5 H5 ((tr3.trans tr4).trans tr5) s5 sl5
  · have hl0 : xs.length ≤ i := by omega
    rw [List.drop_of_length_le hl0] at go
    cases go
    exact .inl ⟨it2 hl0, k2 _ _ _ _ .refl s2 r2⟩
theorem ss_for {iter : Expr} (hp : PassesOwn (model X.prog X.w) X.A X.env X.xe) (hc : X.calm = true) (hi : SdI K cl X tg iter wi I) (hg : SdG K cl X tg js g G) (hb : SdB K cl X body t F) (hs : ∀ x, foldedSetIterable iter X.env x = pure x := by intro _; rfl) : SdS K cl X (.For tg iter body [] pos) (tFor wi g t) (sFor I G F) :=
  ⟨hi.k, ps_for hp hc hi.pe hg.pe hb.pe hs, .forI hi.ev hg.ev hb.ev⟩
theorem EvS.while (hc : EvT K cl tt c) (hb : EvS K cl t F) : EvS K cl (tWhile tt t) (sWhile c F) := fun T B H σ ρ M f M' Dn s r h k => by
  obtain ⟨n, hn⟩ := sWhile_has h
  refine ⟨fun m σ' H' => ∃ T' B' ρ' M2, Tr T B H T' B' H' ∧ StOk K cl T' B' H' M2 ∧ Sl K cl T' B' σ' ρ' ∧ wGo c F m ρ' M2 = some (f, M'), ⟨n, T, B, ρ, M, .refl, s, r, hn⟩, ?_⟩
  rintro m σ' H' ⟨T', B', ρ', M2, tr2, s2, r2, go⟩
  cases m with
  | zero => cases go
  | succ m =>
    unfold wGo at go
    obtain ⟨p, hp, go⟩ := bind_eq go
    refine hc T' B' H' σ' ρ' M2 _ _ _ s2 r2 hp fun T3 B3 H3 tr3 s3 => ?_
    have k3 := k.tr (tr2.trans tr3)
    split at go
    · rename_i hb'
      rw [if_pos hb']
      obtain ⟨q, hq, go⟩ := bind_eq go
      obtain ⟨fl, M5⟩ := q
      refine ⟨fun σ' H' => ∃ m', m' < m + 1 ∧ ∃ T' B' ρ' M2, Tr T B H T' B' H' ∧ StOk K cl T' B' H' M2 ∧ Sl K cl T' B' σ' ρ' ∧ wGo c F m' ρ' M2 = some (f, M'), fun _ _ z => z, ?_⟩
      refine hb T3 B3 H3 σ' ρ' _ fl M5 _ s3 (r2.tr tr3) hq ?_
      cases fl with
      | nx ρ1 => exact fun T5 B5 H5 σ5 tr5 s5 sl5 => ⟨m, by omega, T5, B5, ρ1, M5, (tr2.trans tr3).trans tr5, s5, sl5, go⟩
      | ct ρ1 => exact fun T5 B5 H5 σ5 tr5 s5 sl5 => ⟨m, by omega, T5, B5, ρ1, M5, (tr2.trans tr3).trans tr5, s5, sl5, go⟩
      | bk ρ1 =>
        cases go
        exact fun T5 B5 H5 σ5 tr5 s5 sl5 => k3 T5 B5 H5 σ5 tr5 s5 sl5
      | rt d =>
        cases go
        exact fun v T5 B5 H5 tr5 s5 sl5 => k3 v T5 B5 H5 tr5 s5 sl5
    · rename_i hb'
      cases go
      rw [if_neg hb']
      exact k3 _ _ _ _ .refl s3 (r2.tr tr3)
theorem ss_while (hp : PassesOwn (model X.prog X.w) X.A X.env X.xe) (hc : SdT X K cl e tt c) (hb : SdB K cl X body t F) : SdS K cl X (.While e body [] pos) (tWhile tt t) (sWhile c F) := ⟨hc.k, ps_while hp hc.pe hb.pe, .while hc.ev hb.ev⟩
/-- name = [.. for ..] on one line, the name a local -/
theorem ss_setLc (N : List Str) (sc : Scope) (own : List (Str × Nat)) {Aa : EA → EE} (i : Nat) {y : Str} {py spos : Pos} {elt iter : Expr} {ifs : List Expr} {scope : Scope} {Ft : ET} {Ee : EE} (hm : ∀ {t : TE} {A : EA}, EvL K cl t A → EvE K cl t (Aa A)) (hN : X.N.Nodup)
    (hi : SdI K cl X tg iter wi I) (ok : blkC N sc scope own = true) (hw : (scope.names.any fun (n, k) => n == y && (k == .local || k == .cell)) = false)
    (hg : ∀ (s : Shared) (H : Hp) (C : Addr) (c : List (Str × Addr)) (fp : List Addr), SdG K cl (X.blk s H scope (compEnvC scope c C X.env) fp) tg js g G) (ht : ∀ (s : Shared) (H : Hp) (C : Addr) (c : List (Str × Addr)) (fp : List Addr), SdTs (X.blk s H scope (compEnvC scope c C X.env) fp) K cl ifs tt Ft)
    (he : ∀ (s : Shared) (H : Hp) (C : Addr) (c : List (Str × Addr)) (fp : List Addr), SdE (X.blk s H scope (compEnvC scope c C X.env) fp) K cl elt te Ee) (hj : ∀ j ∈ js, j ∈ own.map (·.2)) (hc : X.calm = true := by rfl) (h0 : X.N = N := by rfl) (h1 : X.env.scope = sc := by rfl) (hk : X.env.scope.kind = .function := by rfl) (hyl : X.env.scope.names.lookup y = some .local := by rfl) (hy : X.N[i]? = some y := by rfl) (hl : (py.line == pos.line) = true := by rfl) (hs : ∀ x, foldedSetIterable iter X.env x = pure x := by intro _; rfl) :
    SdS K cl X (.Assign [.Name y py] (.ListComp elt [⟨tg, iter, ifs, 0⟩] scope pos) spos) (tAsg (tLc wi g tt te (own.map (·.2))) (gName i)) (sAsg (Aa (lLc I G Ft Ee (own.map (·.2)))) (gN i)) :=
  ⟨hi.k, ps_setLc hc hN hy hyl (sw_true hk hyl hl hw) hi.pe (by rw [h0, h1]; exact blkOk_by ok) (fun s H C c fp => (hg s H C c fp).pe) (fun s H C c fp => (ht s H C c fp).pe) (fun s H C c fp => (he s H C c fp).pe) hs,
    (hm (EvL.lc hi.ev (hg X.s_0 X.H_0 0 [] []).ev (ht X.s_0 X.H_0 0 [] []).ev (he X.s_0 X.H_0 0 [] []).ev hj)).asg (sg_name (pos := py) (K := K) (cl := cl) i hN hy (.inl hyl) (.inr hyl) hi.k).ev⟩
end
end Y
set_option Elab.async false
set_option linter.all false
set_option maxRecDepth 100000
set_option maxHeartbeats 4000000
namespace Y
open PySem PySem.Spec PyProof.Rows L2
/-! ### data without places -/
mutual
def pureD : D → Bool
  | .lst xs => pureL xs
  | .rls xs => pureL xs
  | .tup xs => pureL xs
  | .obj _ fs => pureF fs
  | .loc _ => false
  | .non => true
  | .bl _ => true
  | .int _ => true
  | .str _ => true
def pureL : List D → Bool
  | [] => true
  | d :: r => pureD d && pureL r
def pureF : List (Str × D) → Bool
  | [] => true
  | (_, d) :: r => pureD d && pureF r
end
theorem pureL_mem : ∀ {ds : List D}, pureL ds = true → ∀ d ∈ ds, pureD d = true
  | [], _, d, h => by simp at h
  | e :: r, h, d, hd => by
    simp only [pureL, Bool.and_eq_true] at h
    rcases List.mem_cons.mp hd with rfl | hd
    · exact h.1
    · exact pureL_mem h.2 d hd
theorem pureL_of : ∀ {ds : List D}, (∀ d ∈ ds, pureD d = true) → pureL ds = true
  | [], _ => by simp [pureL]
  | e :: r, h => by
    simp only [pureL, Bool.and_eq_true]
    exact ⟨h e (by simp), pureL_of fun d hd => h d (by simp [hd])⟩
theorem pureF_mem : ∀ {fs : List (Str × D)}, pureF fs = true → ∀ d ∈ fs.map (·.2), pureD d = true
  | [], _, d, h => by simp at h
  | (f, e) :: r, h, d, hd => by
    simp only [pureF, Bool.and_eq_true] at h
    simp only [List.map_cons, List.mem_cons] at hd
    rcases hd with rfl | hd
    · exact h.1
    · exact pureF_mem h.2 d hd
theorem pureL_map {α : Type} {f : α → D} {xs : List α} (h : ∀ x, pureD (f x) = true) : pureL (xs.map f) = true := pureL_of fun d hd => by
  obtain ⟨x, _, rfl⟩ := List.mem_map.mp hd
  exact h x
theorem pureL_append {xs ys : List D} : pureL (xs ++ ys) = (pureL xs && pureL ys) := by
  induction xs with
  | nil => simp [pureL]
  | cons x xs ih => simp [pureL, ih, Bool.and_assoc]
section
variable {K : PySem.W.Frag} {cl : Nat → Addr} {T T' : List Addr} {B B' H H' : Hp} {v : V} {d : D} {vs : List V} {ds : List D} {M M' : Sto}
theorem Rep.pure (r : Rep K cl T B v d) (h : pureD d = true) : Rep K cl [] B v d := by
  induction r with
  | non => exact .non
  | bl b => exact .bl b
  | int i => exact .int i
  | str s => exact .str s
  | lst h0 l _ ih => exact .lst h0 l fun i v d a b => ih i v d a b (pureL_mem (by simpa [pureD] using h) d (List.mem_of_getElem? b))
  | rls h0 l _ ih => exact .rls h0 l fun i v d a b => ih i v d a b (pureL_mem (by simpa [pureD] using h) d (List.mem_of_getElem? b))
  | tup h0 l _ ih => exact .tup h0 l fun i v d a b => ih i v d a b (pureL_mem (by simpa [pureD] using h) d (List.mem_of_getElem? b))
  | obj h0 l _ ih => exact .obj h0 l fun i v d a b => ih i v d a b (pureF_mem (by simpa [pureD] using h) d (List.mem_of_getElem? b))
  | loc _ => simp [pureD] at h
theorem Reps.pure (r : Reps K cl T B vs ds) (h : pureL ds = true) : Reps K cl [] B vs ds := ⟨r.len, fun i v d a b => (r.get i v d a b).pure (pureL_mem h d (List.mem_of_getElem? b))⟩
theorem nil_pre {T : List Addr} : ([] : List Addr) <+: T := List.nil_prefix
/-- a callee that knows nothing of the store has kept it -/
theorem StOk.over (s : StOk K cl T B H M) (t : Tr [] B H [] B' H') (e : Same B' H') : StOk K cl T B' H' M ∧ Tr T B H T B' H' := by
  refine ⟨⟨e, s.len, s.nd, fun i a m h1 h2 => ?_⟩, ⟨List.prefix_refl _, t.exB, fun a o h n => ?_⟩⟩
  · rcases s.cell i a m h1 h2 with ⟨c0, o, c2⟩ | ⟨c1, o, c2, c3⟩
    · exact .inl ⟨c0, o, (t.fr a o c2 (by simp)).1⟩
    · obtain ⟨f1, _, f3⟩ := t.fr a o c2 (by simp)
      exact .inr ⟨f3 c1, o, f1, c3.mono (List.prefix_refl _) t.exB⟩
  · obtain ⟨f1, _, f3⟩ := t.fr a o h (by simp)
    exact ⟨f1, n, f3⟩
theorem StOk.nil (e : Same B H) : StOk K cl [] B H [] := ⟨e, rfl, List.nodup_nil, fun i a m h => by simp at h⟩
end
/-! ### a list of the store that will not change any more -/
def sFrz (i : Nat) : ES := fun ρ M => match ρ[i]? with
  | some (some (.loc j)) => match M[j]? with
    | some (.lst xs) => if pureL xs = true then some (.nx (ρ.set i (some (.lst xs))), M.set j .dead) else none
    | _ => none
  | _ => some (.nx ρ, M)
section
variable {X : Cx} {K : PySem.W.Frag} {cl : Nat → Addr} {st : List Stmt} {t : TS} {F : ES}
theorem EvS.frz (i : Nat) (h : EvS K cl t F) : EvS K cl t (sSeq (sFrz i) F) := fun T B H σ ρ M f M' Dn s r hh k => by
  obtain ⟨⟨f1, M1⟩, hp, hh⟩ := bind_eq hh
  unfold sFrz at hp
  split at hp
  · rename_i j hi
    split at hp
    · rename_i xs hj
      split at hp
      · rename_i hx
        cases hp
        obtain ⟨v, hv, rv⟩ := r.get i _ hi
        cases rv with
        | loc hl =>
          rename_i a
          obtain ⟨hb, o, h1, vs, rfl, r1⟩ := s.live hl hj
          have u1 : Same B (upd B a (.lst vs)) := fun b u q => by rw [upd_ne (ne_of_none q hb)]; exact q
          have am : a ∈ T := List.mem_of_getElem? hl
          have tr1 : Tr T B H T (upd B a (.lst vs)) H := ⟨List.prefix_refl _, u1, fun b u q n => ⟨q, n, fun z => by rw [upd_ne (fun e => n (by rw [e]; exact am))]; exact z⟩⟩
          have s1 : StOk K cl T (upd B a (.lst vs)) H (M.set j .dead) := ⟨fun b u q => by
            by_cases hba : b = a
            · subst hba; rw [upd_same] at q; rw [h1]; exact q
            · rw [upd_ne hba] at q; exact s.ex b u q, by simp [s.len], s.nd, fun m b mo g1 g2 => by
            by_cases hm : j = m
            · subst hm
              rw [hl] at g1; cases g1
              rw [List.getElem?_set] at g2
              simp at g2
              exact .inl ⟨g2.2.symm, _, h1⟩
            · rw [List.getElem?_set_ne hm] at g2
              have ne : b ≠ a := fun e => by
                subst e
                exact hm ((List.getElem?_inj (List.getElem?_eq_some_iff.mp hl).1 s.nd).mp (hl.trans g1.symm))
              rcases s.cell m b mo g1 g2 with c | ⟨c1, u, c2, c3⟩
              · exact .inl c
              · exact .inr ⟨by rw [upd_ne ne]; exact c1, u, c2, c3.mono (List.prefix_refl _) u1⟩⟩
          have rl := (r1.mono (List.prefix_refl T) u1)
          have r2 : Sl K cl T (upd B a (.lst vs)) σ (ρ.set i (some (.lst xs))) := ⟨by simp [r.len], fun m d hm => by
            by_cases him : i = m
            · subst him
              rw [List.getElem?_set] at hm
              simp at hm
              obtain ⟨_, rfl⟩ := hm
              exact ⟨.ref a, hv, .lst upd_same rl.len rl.get⟩
            · rw [List.getElem?_set_ne him] at hm
              obtain ⟨w, hw, rw'⟩ := r.get m d hm
              exact ⟨w, hw, rw'.mono (List.prefix_refl _) u1⟩⟩
          exact h T _ H σ _ _ f M' Dn s1 r2 hh (k.tr tr1)
      · cases hp
    · cases hp
  · cases hp
    exact h T B H σ ρ M f M' Dn s r hh k
theorem sb_frz (i : Nat) (h : SdB K cl X st t F) : SdB K cl X st t (sSeq (sFrz i) F) := ⟨h.k, h.pe, h.ev.frz i⟩
end
/-! ### how a def hands back its value -/
def FzOk (K : PySem.W.Frag) (cl : Nat → Addr) (fz : Sto → D → Option D) : Prop := ∀ T B H M v d d', StOk K cl T B H M → Rep K cl T B v d → fz M d = some d' →
  ∃ B2, Same B B2 ∧ Same B2 H ∧ (∀ a, a ∉ T → B a = none → B2 a = none) ∧ Rep K cl [] B2 v d'
def fz1 (M : Sto) (d : D) : Option D := match d with
  | .loc i => match M[i]? with
    | some (.lst xs) => if pureL xs = true then some (.lst xs) else none
    | some (.obj c fs) => if pureF fs = true then some (.obj c fs) else none
    | _ => none
  | d => if pureD d = true then some d else none
theorem fz1_loc {M : Sto} {i : Nat} {xs : List D} (h : M[i]? = some (.lst xs)) (p : pureL xs = true) : fz1 M (.loc i) = some (.lst xs) := by
  simp only [fz1, h, if_pos p]
section
variable {K : PySem.W.Frag} {cl : Nat → Addr} {T T' : List Addr} {B B' H H' : Hp} {v : V} {d : D} {vs : List V} {ds : List D} {M M' : Sto}
theorem upd_up (e : Same B H) {a : Addr} {o : HO} (hb : B a = none) (h : H a = some o) : Same B (upd B a o) ∧ Same (upd B a o) H := by
  refine ⟨fun b u q => by rw [upd_ne (ne_of_none q hb)]; exact q, fun b u q => ?_⟩
  by_cases hba : b = a
  · subst hba; rw [upd_same] at q; rw [h]; exact q
  · rw [upd_ne hba] at q; exact e b u q
theorem fz1_ok : FzOk K cl fz1 := fun T B H M v d d' s r h => by
  unfold fz1 at h
  split at h
  · rename_i i
    split at h
    · rename_i xs hi
      split at h
      · rename_i hp
        cases h
        cases r with
        | loc hl =>
          rename_i a
          obtain ⟨hb, o, h1, vs, rfl, r1⟩ := s.live hl hi
          obtain ⟨u1, u2⟩ := upd_up s.ex hb h1
          refine ⟨upd B a (.lst vs), u1, u2, fun x hx hbx => ?_, ?_⟩
          · rw [upd_ne (fun e => hx (by rw [e]; exact List.mem_of_getElem? hl))]; exact hbx
          · have r2 := (r1.mono (List.prefix_refl _) u1).pure hp
            exact .lst upd_same r2.len r2.get
      · cases h
    · rename_i c fs hi
      split at h
      · rename_i hp
        cases h
        cases r with
        | loc hl =>
          rename_i a
          obtain ⟨hb, o, h1, dx, vf, rfl, r1⟩ := s.live hl hi
          obtain ⟨u1, u2⟩ := upd_up s.ex hb h1
          refine ⟨upd B a (.ins (cl c) dx vf), u1, u2, fun x hx hbx => ?_, ?_⟩
          · rw [upd_ne (fun e => hx (by rw [e]; exact List.mem_of_getElem? hl))]; exact hbx
          · have r2 := (r1.vals.mono (List.prefix_refl _) u1).pure (pureL_of (pureF_mem hp))
            exact .obj upd_same r1.keys r2.get
      · cases h
    · cases h
  · split at h
    · rename_i hp
      cases h
      exact ⟨B, Same.refl _, s.ex, fun _ _ e => e, r.pure hp⟩
    · cases h
end
/-! ### defs -/
def runP (n : Nat) (b : ES) (fz : Sto → D → Option D) (ds : List D) : Option D := match b (ds.map some ++ List.replicate (n - ds.length) none) [] with
  | some (.rt d, M) => fz M d
  | some (.nx _, _) => some .non
  | _ => none
def SpP (K : PySem.W.Frag) (cl : Nat → Addr) (n : Nat) (F : List D → Option D) : Sp := fun vs H Q _ => vs.length = n ∧ ∃ B ds d, Same B H ∧ Reps K cl [] B vs ds ∧ F ds = some d ∧
  ∀ v B' H', Tr [] B H [] B' H' → Same B' H' → Rep K cl [] B' v d → Q v H'
theorem start_sl {K : PySem.W.Frag} {cl : Nat → Addr} {T : List Addr} {B : Hp} {N : List Str} {vs : List V} {ds : List D} (r : Reps K cl T B vs ds) : Sl K cl T B (start N vs) (ds.map some ++ List.replicate (N.length - ds.length) none) := by
  unfold L2.start
  refine ⟨by simp [r.len], fun i d h => ?_⟩
  by_cases hi : i < ds.length
  · rw [List.getElem?_append_left (by simpa using hi), List.getElem?_map] at h
    rw [List.getElem?_append_left (by simpa [r.len] using hi), List.getElem?_map]
    obtain ⟨e, h1, h2⟩ := map_eq h
    cases h2
    obtain ⟨v, hv, rv⟩ := r.at h1
    exact ⟨v, by rw [hv]; rfl, rv⟩
  · rw [List.getElem?_append_right (by simpa using hi)] at h
    have := List.mem_of_getElem? h
    simp at this
section
variable {P : Program} {w : World} {K : PySem.W.Frag} {mg : Str → Option Value} {base : Heap} {cl : Nat → Addr}
theorem ok_pure {x qual : Str} {st : Stmt} {f : Addr} {fd : FuncData} {N ps : List Str} {k : Nat} (F : Fun K x qual st f fd) (S : FnScope N ps (defScope st)) {b : ES} {fz : Sto → D → Option D} (hz : FzOk K cl fz)
    (hb : ∀ (cdv : Value) (A : Around) (outer : List Env) (s : Shared) (H : Hp) (E : XK), Room k (A.deeper (envOfC qual (defScope st) s.heap.objs.size f cdv)) → ∃ t, SdB K cl (cxOf CX0 P w K mg base N qual (defScope st) f cdv A outer s H E).nox (defBody st) t b) :
    FnOk P w K mg base CX0 (k + 1) f fd ps (SpP K cl ps.length (runP N.length b fz)) := by
  refine F.ok S (fun vs H Q E h => h.1) (fun cdv A outer s H vs Q E hr h => ?_)
  obtain ⟨t, hs⟩ := hb cdv A outer s H E hr
  refine ⟨t, hs.pe, ?_⟩
  obtain ⟨hl, B, ds, d, eB, rs, hF, k⟩ := h
  unfold runP at hF
  split at hF
  · rename_i d0 M hrun
    refine hs.ev [] B H _ _ [] (.rt d0) M _ (.nil eB) (start_sl rs) hrun fun v T' B' H' tr s' r' => ?_
    obtain ⟨B2, u1, u2, u3, r2⟩ := hz T' B' H' M v d0 d s' r' hF
    refine k v B2 H' ⟨nil_pre, fun a o e => u1 a o (tr.exB a o e), fun a o h n => ?_⟩ u2 r2
    obtain ⟨f1, f2, f3⟩ := tr.fr a o h n
    exact ⟨f1, n, fun z => u3 a f2 (f3 z)⟩
  · rename_i ρ M hrun
    cases hF
    refine hs.ev [] B H _ _ [] (.nx ρ) M _ (.nil eB) (start_sl rs) hrun fun T' B' H' σ' tr s' r' => ?_
    refine k .non B' H' ⟨nil_pre, tr.exB, fun a o h n => ?_⟩ s'.ex .non
    obtain ⟨f1, f2, f3⟩ := tr.fr a o h n
    exact ⟨f1, n, f3⟩
  · cases hF
end
def eCall (F : List D → Option D) (A : EA) : EE := fun ρ M => (A ρ M).bind fun p => if pureL p.1 = true then (F p.1).map fun d => (d, p.2) else none
def eFld (c : Nat) (f : Str) (A : EE) : EE := fun ρ M => (A ρ M).bind fun p => match p.1 with
  | .obj c' fs => if c' = c then (fs.lookup f).map fun d => (d, p.2) else none
  | .loc i => match p.2[i]? with
    | some (.obj c' fs) => if c' = c then (fs.lookup f).map fun d => (d, p.2) else none
    | _ => none
  | _ => none
def eMeth (c : Nat) (m : Str) (F : List D → Option D) (O : EE) (A : EA) : EE := fun ρ M => (O ρ M).bind fun p => match p.1 with
  | .obj c' fs => if c' = c ∧ fs.lookup m = none ∧ pureF fs = true then (A ρ p.2).bind fun q => if pureL q.1 = true then (F (.obj c' fs :: q.1)).map fun d => (d, q.2) else none else none
  | _ => none
section
variable {X : Cx} {K : PySem.W.Frag} {cl : Nat → Addr} {T : List Addr} {B H : Hp} {M : Sto} {Q : VK} {d : D} {e o : Expr} {es : List Expr} {te : TE} {ta : TA} {E : EE} {Aa : EA} {pos p apos : Pos}
theorem SpP.use {n : Nat} {F : List D → Option D} {vs : List V} {ds : List D} {Ex : XK} (s : StOk K cl T B H M) (r : Reps K cl T B vs ds) (hp : pureL ds = true) (hF : F ds = some d) (hl : vs.length = n) (k : Kon K cl T B H M d Q) : SpP K cl n F vs H Q Ex := by
  refine ⟨hl, B, ds, d, s.ex, r.pure hp, hF, fun v B' H' tr e r' => ?_⟩
  obtain ⟨s', tr'⟩ := s.over tr e
  exact k v T B' H' tr' s' (r'.mono nil_pre (Same.refl _))
theorem sd_call {x : Str} {k : Nat} {f : Addr} {fd : FuncData} {ps : List Str} {n : Nat} {F : List D → Option D} (ok : FnOk X.prog X.w K X.mg X.base CX0 k f fd ps (SpP K cl n F)) (hr : Room k X.A) (hg : Gl X x) (hm : X.mg x = some (.ref f)) (hk : PySem.W.keepIn K (.ref f) = true) (hb : Binds K fd ps [])
    (ha : SdA X K cl (e :: es) ta Aa) (hn : (e :: es).length = n) (hA : ∀ ρ M q, Aa ρ M = some q → q.1.length = (e :: es).length) (hdb : (x == ("__debug__" : Str)) = false := by decide) (he : starEach (e :: es) X.env = (false, eval e X.env) :: starEach es X.env := by rfl) (hpl : (backTo pos (starEach es X.env)).any (·.1) = false := by rfl) :
    SdE X K cl (.Call (.Name x p) (e :: es) [] pos) (tCall (SpP K cl n F) [] E0 ta) (eCall F Aa) := by
  obtain ⟨rfl, hpa, hev⟩ := ha
  refine ⟨rfl, pe_call ok hr hg hm hk hb .nil pass0 hpa hdb he hpl, fun T B H σ ρ M d M' Q s r h k => ?_⟩
  obtain ⟨q, hq, h⟩ := bind_eq h
  split at h
  · rename_i hp
    obtain ⟨d', hd, h⟩ := map_eq h
    cases h
    refine hev T B H σ ρ M _ _ _ s r hq fun vs T1 B1 H1 tr1 s1 r1 => ?_
    rw [List.append_nil]
    refine SpP.use s1 r1 hp hd ?_ fun v T2 B2 H2 tr2 => k v T2 B2 H2 (tr1.trans tr2)
    rw [r1.len, hA _ _ _ hq, hn]
  · cases h
theorem lookup_reps : ∀ {vf : List (Str × V)} {fs : List (Str × D)} {f : Str} {d : D}, RepF K cl T B vf fs → fs.lookup f = some d → ∃ v, vf.lookup f = some v ∧ Rep K cl T B v d
  | [], [], _, _, _, h => by cases h
  | [], _ :: _, _, _, r, _ => by have := r.keys; simp at this
  | _ :: _, [], _, _, r, _ => by have := r.keys; simp at this
  | (g, v) :: vf, (g', e) :: fs, f, d, r, h => by
    have hk := r.keys
    simp only [List.map_cons, List.cons.injEq] at hk
    obtain ⟨rfl, hk⟩ := hk
    obtain ⟨v', vr, e1, r1, r2⟩ := (show Reps K cl T B (v :: vf.map (·.2)) (e :: fs.map (·.2)) from r.vals).cons_inv
    cases e1
    simp only [List.lookup] at h ⊢
    split at h
    · rename_i hb
      cases h
      exact ⟨v, rfl, r1⟩
    · rename_i hb
      exact lookup_reps ⟨hk, r2⟩ h
theorem lookup_none {α β : Type} : ∀ {vf : List (Str × α)} {fs : List (Str × β)} {f : Str}, vf.map (·.1) = fs.map (·.1) → fs.lookup f = none → vf.lookup f = none
  | [], [], _, _, _ => rfl
  | [], _ :: _, _, h, _ => by simp at h
  | _ :: _, [], _, h, _ => by simp at h
  | (g, v) :: vf, (g', e) :: fs, f, hk, h => by
    simp only [List.map_cons, List.cons.injEq] at hk
    obtain ⟨rfl, hk⟩ := hk
    simp only [List.lookup] at h ⊢
    split at h
    · cases h
    · rename_i hb
      exact lookup_none hk h
theorem sd_fld (c : Nat) {f : Str} (C : Cls K (cl c)) (n : NoAttr K (cl c) f) (h : SdE X K cl e te E) (hb : attributeBase e f X.env (eval e X.env) = eval e X.env := by rfl) : SdE X K cl (.Attribute e f pos) (tFld K te f) (eFld c f E) := ⟨h.k, h.k ▸ pe_fld h.pe hb, fun T B H σ ρ M d M' Q s r hh k => by
  obtain ⟨q, hq, g1⟩ := bind_eq hh
  clear hh
  obtain ⟨q1, M1⟩ := q
  cases q1 with
  | obj c' fs =>
    have hh : (if c' = c then (fs.lookup f).map fun d => (d, M1) else none) = some (d, M') := g1
    clear g1
    split at hh
    · rename_i hc
      subst hc
      obtain ⟨d', hd, g2⟩ := map_eq hh
      cases g2
      refine h.ev T B H σ ρ M _ _ _ s r hq fun v T1 B1 H1 tr1 s1 r1 => ?_
      cases r1 with
      | obj h0 l g =>
        obtain ⟨v, hv, rv⟩ := lookup_reps ⟨l, ⟨by have := congrArg List.length l; simpa using this, g⟩⟩ hd
        exact ⟨_, _, _, _, v, rfl, s1.ex _ _ h0, C, n, hv, k v _ _ _ tr1 s1 rv⟩
    · cases hh
  | loc i =>
    have hh : (match M1[i]? with
      | some (.obj c' fs) => if c' = c then (fs.lookup f).map fun d => (d, M1) else none
      | _ => none) = some (d, M') := g1
    clear g1
    split at hh
    · rename_i c' fs hi
      split at hh
      · rename_i hc
        subst hc
        obtain ⟨d', hd, g2⟩ := map_eq hh
        cases g2
        refine h.ev T B H σ ρ M _ _ _ s r hq fun v T1 B1 H1 tr1 s1 r1 => ?_
        cases r1 with
        | loc hl =>
          obtain ⟨o, h1, dx, vf, rfl, r2⟩ := s1.loc hl hi
          obtain ⟨v, hv, rv⟩ := lookup_reps r2 hd
          exact ⟨_, _, _, _, v, rfl, h1, C, n, hv, k v _ _ _ tr1 s1 rv⟩
      · cases hh
    · cases hh
  | _ => cases g1⟩
theorem sd_meth (c : Nat) {m : Str} {k : Nat} {f : Addr} {fd : FuncData} {ps : List Str} {n : Nat} {F : List D → Option D} {pl : Sem Bool} (h : SdE X K cl o te E) (C : Cls K (cl c)) (hm : Meth K (cl c) m f) (ok : FnOk X.prog X.w K X.mg X.base CX0 k f fd ps (SpP K cl n F)) (hr : Room k X.A) (hb : Binds K fd ps [])
    (ha : SdA X K cl (e :: es) ta Aa) (hn : (e :: es).length + 1 = n) (hA : ∀ ρ M q, Aa ρ M = some q → q.1.length = (e :: es).length)
    (hst : starEach (e :: es) X.env = (false, eval e X.env) :: starEach es X.env := by rfl) (hpl : (backTo pos (starEach es X.env)).any (·.1) = false := by rfl)
    (ht : eval (.Call (.Attribute o m apos) (e :: es) [] pos) X.env = (do
      let ov ← eval o X.env
      standAt apos.atName
      let (f, first) ← holding [ov] (getMethod ov m pl)
      callWith pos f first (backTo pos (starEach (e :: es) X.env)) (backToKw pos (keywordEach [] X.env))) := by rfl) :
    SdE X K cl (.Call (.Attribute o m apos) (e :: es) [] pos) (tMeth (cl c) m (SpP K cl n F) [] E0 te ta) (eMeth c m F E Aa) := by
  obtain ⟨rfl, hpo, hevo⟩ := h
  obtain ⟨_, hpa, hev⟩ := ha
  refine ⟨rfl, pe_meth (pl := pl) hpo C hm ok hr hb .nil pass0 hpa hst hpl ht, fun T B H σ ρ M d M' Q s r h k => ?_⟩
  obtain ⟨q, hq, g1⟩ := bind_eq h
  clear h
  obtain ⟨q1, M1⟩ := q
  cases q1 with
  | obj c' fs =>
    have g2 : (if c' = c ∧ fs.lookup m = none ∧ pureF fs = true then (Aa ρ M1).bind fun q => if pureL q.1 = true then (F (.obj c' fs :: q.1)).map fun d => (d, q.2) else none else none) = some (d, M') := g1
    clear g1
    split at g2
    · rename_i hc
      obtain ⟨rfl, hlk, hpf⟩ := hc
      obtain ⟨z, hz, g3⟩ := bind_eq g2
      clear g2
      split at g3
      · rename_i hp
        obtain ⟨d', hd, g4⟩ := map_eq g3
        cases g4
        refine hevo T B H σ ρ M _ _ _ s r hq fun v T1 B1 H1 tr1 s1 r1 => ?_
        have r1' := r1
        cases r1 with
        | obj h0 l g =>
          refine ⟨_, _, _, rfl, s1.ex _ _ h0, lookup_none l hlk, hev T1 B1 H1 σ ρ M1 _ _ _ s1 (r.tr tr1) hz fun vs T2 B2 H2 tr2 s2 r2 => ?_⟩
          rw [List.append_nil]
          refine SpP.use s2 (.cons (r1'.tr tr2) r2) (by simp only [pureL, pureD, hpf, hp, Bool.and_self]) hd ?_ fun v T3 B3 H3 tr3 => k v T3 B3 H3 ((tr1.trans tr2).trans tr3)
          rw [List.length_cons, r2.len, hA _ _ _ hz, hn]
      · cases g3
    · cases g2
  | _ => cases g1
end
theorem len_nil : ∀ ρ M q, aNil ρ M = some q → q.1.length = ([] : List Expr).length := fun ρ M q h => by cases h; rfl
theorem len_cons {e : Expr} {es : List Expr} {A : EE} {Aa : EA} (h : ∀ ρ M q, Aa ρ M = some q → q.1.length = es.length) : ∀ ρ M q, aCons A Aa ρ M = some q → q.1.length = (e :: es).length := fun ρ M q hq => by
  obtain ⟨p, hp, hq⟩ := bind_eq hq
  obtain ⟨z, hz, hq⟩ := map_eq hq
  cases hq
  simp [h _ _ _ hz]
/-! ### instances that are made and then kept for good -/
def putD (f : Str) (v : D) : List (Str × D) → List (Str × D)
  | [] => [(f, v)]
  | (g, x) :: r => if g = f then (g, v) :: r else (g, x) :: putD f v r
def runI (n c : Nat) (b : ES) (ds : List D) : Option D := match b ((D.loc 0 :: ds).map some ++ List.replicate (n - (ds.length + 1)) none) [MO.obj c []] with
  | some (.nx _, M) => match (M : List MO)[0]? with
    | some (MO.obj c' fs) => if c' = c ∧ pureF fs = true then some (.obj c fs) else none
    | _ => none
  | _ => none
def SpI (K : PySem.W.Frag) (cl : Nat → Addr) (n c : Nat) (F : List D → Option D) : Sp := fun vs H Q _ => vs.length = n ∧ ∃ x ws dx B ds d, vs = .ref x :: ws ∧ H x = some (.ins (cl c) dx []) ∧ B x = none ∧ Same B H ∧ Reps K cl [] B ws ds ∧ F ds = some d ∧
  ∀ B' H', (∀ a o, H a = some o → a ≠ x → H' a = some o ∧ (B a = none → B' a = none)) → Same B B' → Same B' H' → Rep K cl [] B' (.ref x) d → Q .non H'
section
variable {P : Program} {w : World} {K : PySem.W.Frag} {mg : Str → Option Value} {base : Heap} {cl : Nat → Addr}
theorem ok_init (c : Nat) {x qual : Str} {st : Stmt} {f : Addr} {fd : FuncData} {N ps : List Str} {k : Nat} (F : Fun K x qual st f fd) (S : FnScope N ps (defScope st)) {b : ES}
    (hb : ∀ (cdv : Value) (A : Around) (outer : List Env) (s : Shared) (H : Hp) (E : XK), Room k (A.deeper (envOfC qual (defScope st) s.heap.objs.size f cdv)) → ∃ t, SdB K cl (cxOf CX0 P w K mg base N qual (defScope st) f cdv A outer s H E).nox (defBody st) t b) :
    FnOk P w K mg base CX0 (k + 1) f fd ps (SpI K cl ps.length c (runI N.length c b)) := by
  refine F.ok S (fun vs H Q E h => h.1) (fun cdv A outer s H vs Q E hr h => ?_)
  obtain ⟨t, hs⟩ := hb cdv A outer s H E hr
  refine ⟨t, hs.pe, ?_⟩
  obtain ⟨hl, x, ws, dx, B, ds, d, rfl, hx, hbx, eB, rs, hF, k⟩ := h
  have s0 : StOk K cl [x] B H [.obj c []] := ⟨eB, rfl, by simp, fun i a m h1 h2 => by
    cases i with
    | zero =>
      simp at h1 h2
      subst h1; subst h2
      exact .inr ⟨hbx, _, hx, dx, [], rfl, rfl, .nil⟩
    | succ i => simp at h1⟩
  have r0 : Reps K cl [x] B (.ref x :: ws) (.loc 0 :: ds) := .cons (.loc rfl) (rs.mono nil_pre (Same.refl _))
  have sl := start_sl (N := N) r0
  unfold runI at hF
  split at hF
  · rename_i ρ M hrun
    split at hF
    · rename_i c' fs hM
      split at hF
      · rename_i hc
        obtain ⟨rfl, hp⟩ := hc
        cases hF
        refine hs.ev [x] B H _ _ [.obj c' []] (.nx ρ) M _ s0 sl hrun fun T' B' H' σ' tr s' r' => ?_
        have hT : T'[0]? = some x := pre_get tr.pre rfl
        obtain ⟨hb', o, h1, dx', vf, rfl, r1⟩ := s'.live hT hM
        obtain ⟨u1, u2⟩ := upd_up s'.ex hb' h1
        refine k (upd B' x (.ins (cl c') dx' vf)) H' (fun a o ha hax => ?_) (fun a o e => u1 a o (tr.exB a o e)) u2 ?_
        · obtain ⟨f1, f2, f3⟩ := tr.fr a o ha (by simpa using hax)
          exact ⟨f1, fun z => by rw [upd_ne hax]; exact f3 z⟩
        · have r2 := (r1.vals.mono (List.prefix_refl _) u1).pure (pureL_of (pureF_mem hp))
          exact .obj upd_same r1.keys r2.get
      · cases hF
    · cases hF
  · cases hF
end
/-- self.f = e -/
def sFldD (c : Nat) (f : Str) (O E : EE) : ES := fun ρ M => (E ρ M).bind fun p => (O ρ p.2).bind fun q => match q.1 with
  | .loc i => match q.2[i]? with
    | some (MO.obj c' fs) => if c' = c ∧ fs.length < 1000 then some (Fl.nx ρ, q.2.set i (MO.obj c (putD f p.1 fs))) else none
    | _ => none
  | _ => none
section
variable {X : Cx} {K : PySem.W.Frag} {cl : Nat → Addr} {T : List Addr} {B H : Hp} {M : Sto} {Q : VK} {d : D} {e o : Expr} {es : List Expr} {te to : TE} {ta : TA} {E O : EE} {Aa : EA} {pos p apos pos' : Pos}
theorem repF_put {v : V} (f : Str) (rv : Rep K cl T B v d) : ∀ {vf : List (Str × V)} {fs : List (Str × D)}, RepF K cl T B vf fs → RepF K cl T B (putF f v vf) (putD f d fs)
  | [], [], _ => ⟨rfl, .cons rv .nil⟩
  | [], _ :: _, r => by have := r.keys; simp at this
  | _ :: _, [], r => by have := r.keys; simp at this
  | (g, x) :: vf, (g', y) :: fs, r => by
    have hk := r.keys
    simp only [List.map_cons, List.cons.injEq] at hk
    obtain ⟨rfl, hk⟩ := hk
    obtain ⟨v', vr, e1, r1, r2⟩ := (show Reps K cl T B (x :: vf.map (·.2)) (y :: fs.map (·.2)) from r.vals).cons_inv
    cases e1
    unfold putF putD
    by_cases hg : g = f
    · rw [if_pos hg, if_pos hg]
      exact ⟨by simp [hk], .cons rv r2⟩
    · rw [if_neg hg, if_neg hg]
      have ih := repF_put f rv ⟨hk, r2⟩
      exact ⟨by simp [ih.keys], .cons r1 ih.vals⟩
theorem put_obj {i c : Nat} {f : Str} {a : Addr} {fs : List (Str × D)} {x : V} (s : StOk K cl T B H M) (hl : T[i]? = some a) (hi : M[i]? = some (.obj c fs)) (rx : Rep K cl T B x d) (C : Cls K (cl c)) (n : NoAttr K (cl c) f) (hz : fs.length < 1000) {N : Hp → Prop}
    (k : ∀ H', Tr T B H T B H' → StOk K cl T B H' (M.set i (.obj c (putD f d fs))) → N H') : ∃ a' C dx fs', V.ref a = .ref a' ∧ H a' = some (.ins C dx fs') ∧ Cls K C ∧ NoAttr K C f ∧ fs'.length < 1000 ∧ N (upd H a' (.ins C dx (putF f x fs'))) := by
  obtain ⟨hbn, o, h1, dx, vf, rfl, r2⟩ := s.live hl hi
  have e := congrArg List.length r2.keys
  obtain ⟨t3, s3⟩ := s.put (o := .ins (cl c) dx (putF f x vf)) (m := .obj c (putD f d fs)) hl hbn ⟨dx, _, rfl, repF_put f rx r2⟩
  exact ⟨a, cl c, dx, vf, rfl, h1, C, n, by simp at e; omega, k _ t3 s3⟩
theorem ss_fld (c : Nat) {f : Str} (C : Cls K (cl c)) (n : NoAttr K (cl c) f) (ho : SdE X K cl o to O) (hv : SdE X K cl e te E) (hs : swapsWith e (some (.Attribute o f pos')) pos.line X.env = pure false := by rfl) : SdS K cl X (.Assign [.Attribute o f pos'] e pos) (sFld K to te f) (sFldD c f O E) := ⟨ho.k, ho.k ▸ ps_fld ho.pe hv.pe hs, fun T B H σ ρ M fl M' Dn s r h k => by
  obtain ⟨p, hp, h⟩ := bind_eq h
  obtain ⟨q, hq, h⟩ := bind_eq h
  obtain ⟨q1, M2⟩ := q
  cases q1 with
  | loc i =>
    have h : (match M2[i]? with
      | some (.obj c' fs) => if c' = c ∧ fs.length < 1000 then some (.nx ρ, M2.set i (.obj c (putD f p.1 fs))) else none
      | _ => none) = some (fl, M') := h
    split at h
    · rename_i c' fs hi
      split at h
      · rename_i hc
        obtain ⟨rfl, hz⟩ := hc
        cases h
        refine hv.ev T B H σ ρ M _ _ _ s r hp fun y T1 B1 H1 tr1 s1 r1 => ?_
        refine ho.ev T1 B1 H1 σ ρ _ _ _ _ s1 (r.tr tr1) hq fun x T2 B2 H2 tr2 s2 r2 => ?_
        cases r2 with
        | loc hl =>
          refine put_obj (N := fun H' => Dn.nx σ H') s2 hl hi (r1.tr tr2) C n hz fun H' t3 s3 => ?_
          exact k T2 B2 H' σ ((tr1.trans tr2).trans t3) s3 (r.tr ((tr1.trans tr2).trans t3))
      · cases h
    · cases h
  | _ => cases h⟩
/-- .., self.f, .. = e -/
def gFldT (K : PySem.W.Frag) (to : TE) (f : Str) : TG := fun y σ H Q => to σ H fun x H2 => ∃ a C dx fs, x = .ref a ∧ H2 a = some (.ins C dx fs) ∧ Cls K C ∧ NoAttr K C f ∧ fs.length < 1000 ∧ Q σ (upd H2 a (.ins C dx (putF f y fs)))
theorem pg_fld {f : Str} (ho : PE X o to) : PG X (.Attribute o f pos) (gFldT X.K to f) := by
  refine ⟨fun pins s σ H v u Q I r h => ?_⟩
  rw [assign_Attribute]
  refine wpAny_bind (wpAny_holding (thn (ho.run pins s σ H _ I h) fun ov s1 ⟨x, H1, I1, r1, a, C, dx, fs, ex, ea, c, n, l, q⟩ => ?_))
  subst ex
  obtain rfl : ov = Value.ref a := r1
  refine wpAny_bind (wpAny_standAt (wpAny_bind (wpAny_holding (setattr_ok I1 ea c n l r fun s3 I3 => ?_))))
  exact wpAny_release ⟨σ, _, I3, q⟩
def gFld (c : Nat) (f : Str) (O : EE) : EG := fun d ρ M => (O ρ M).bind fun (q : D × Sto) => match q.1 with
  | .loc i => match q.2[i]? with
    | some (MO.obj c' fs) => if c' = c ∧ fs.length < 1000 then some (ρ, q.2.set i (.obj c (putD f d fs))) else none
    | _ => none
  | _ => none
theorem sg_fld (c : Nat) {f : Str} (C : Cls K (cl c)) (n : NoAttr K (cl c) f) (ho : SdE X K cl o to O) : SdG K cl X (.Attribute o f pos) [] (gFldT K to f) (gFld c f O) := ⟨ho.k, ho.k ▸ pg_fld ho.pe, fun T B H σ ρ M x d ρ' M' Q s r rx h k => by
  obtain ⟨q, hq, h⟩ := bind_eq h
  obtain ⟨q1, M2⟩ := q
  cases q1 with
  | loc i =>
    have h : (match M2[i]? with
      | some (.obj c' fs) => if c' = c ∧ fs.length < 1000 then some (ρ, M2.set i (.obj c (putD f d fs))) else none
      | _ => none) = some (ρ', M') := h
    split at h
    · rename_i c' fs hi
      split at h
      · rename_i hc
        obtain ⟨rfl, hz⟩ := hc
        cases h
        refine ho.ev T B H σ ρ M _ _ _ s r hq fun y T2 B2 H2 tr2 s2 r2 => ?_
        cases r2 with
        | loc hl =>
          refine put_obj (N := fun H' => Q σ H') s2 hl hi (rx.tr tr2) C n hz fun H' t3 s3 => ?_
          exact k T2 B2 H' σ (tr2.trans t3) s3 (r.tr (tr2.trans t3)) fun _ _ => rfl
      · cases h
    · cases h
  | _ => cases h⟩
theorem sd_make (c : Nat) {x : Str} {k : Nat} {f : Addr} {fd : FuncData} {ps : List Str} {n : Nat} {F : List D → Option D} (mk : Mk K (cl c) f) (ok : FnOk X.prog X.w K X.mg X.base CX0 k f fd ps (SpI K cl n c F)) (hr : Room (k + 1) X.A) (hg : Gl X x) (hm : X.mg x = some (.ref (cl c))) (hb : Binds K fd ps [])
    (ha : SdA X K cl (e :: es) ta Aa) (hn : (e :: es).length + 1 = n) (hA : ∀ ρ M q, Aa ρ M = some q → q.1.length = (e :: es).length) (hdb : (x == ("__debug__" : Str)) = false := by decide) (he : starEach (e :: es) X.env = (false, eval e X.env) :: starEach es X.env := by rfl) (hpl : (backTo pos (starEach es X.env)).any (·.1) = false := by rfl) :
    SdE X K cl (.Call (.Name x p) (e :: es) [] pos) (tMake (cl c) (SpI K cl n c F) [] E0 ta) (eCall F Aa) := by
  obtain ⟨rfl, hpa, hev⟩ := ha
  refine ⟨rfl, pe_make mk ok hr hg hm hb .nil pass0 hpa hdb he hpl, fun T B H σ ρ M d M' Q s r h k => ?_⟩
  obtain ⟨q, hq, h⟩ := bind_eq h
  split at h
  · rename_i hp
    obtain ⟨d', hd, h⟩ := map_eq h
    cases h
    refine hev T B H σ ρ M _ _ _ s r hq fun vs T1 B1 H1 tr1 s1 r1 => ?_
    intro x dx hx hdx hne
    rw [List.append_nil]
    have hbx : B1 x = none := s1.ex.free hx
    have hbd : B1 dx = none := s1.ex.free hdx
    refine ⟨by rw [List.length_cons, r1.len, hA _ _ _ hq, hn], x, vs, dx, B1, _, d, rfl, upd_same, hbx, fun a o q => ?_, r1.pure hp, hd, fun B' H' hfr hB hBH r' => ⟨rfl, ?_⟩⟩
    · rw [upd_ne (ne_of_none q hbx), upd_ne (ne_of_none q hbd)]
      exact s1.ex a o q
    · have tr2 : Tr [] B1 H1 [] B' H' := ⟨List.prefix_refl _, hB, fun a o h n => by
        obtain ⟨f1, f2⟩ := hfr a o (by rw [upd_ne (ne_of_none h hx), upd_ne (ne_of_none h hdx)]; exact h) (ne_of_none h hx)
        exact ⟨f1, n, f2⟩⟩
      obtain ⟨s', tr'⟩ := s1.over tr2 hBH
      exact k _ _ _ _ (tr1.trans tr') s' (r'.mono nil_pre (Same.refl _))
  · cases h
/-- xs.append(e) -/
def eApp (O E : EE) : EE := fun ρ M => (O ρ M).bind fun p => (E ρ p.2).bind fun q => match p.1 with
  | .loc i => match p.2[i]?, q.2[i]? with
    | some (.lst _), some (.lst xs) => if xs.length < 1000000 then some (.non, q.2.set i (.lst (xs ++ [q.1]))) else none
    | _, _ => none
  | _ => none
theorem sd_app (ho : SdE X K cl o to O) (he : SdE X K cl e te E)
    (hbase : attributeBase o "append" X.env (eval o X.env) = eval o X.env := by rfl)
    (hfew : ((backTo pos (starEach [e] X.env)).all (fun x => !x.1) && (backToKw pos (keywordEach [] X.env)).all (fun x => x.1.isSome)
      && decide ([e].length + ([] : List Keyword).length + (if ([] : List Keyword).isEmpty then 0 else 1) < 30)) = true := by rfl)
    (hline : (apos.endLine == pos.line) = true := by rfl) (hs : starEach [e] X.env = (false, eval e X.env) :: starEach [] X.env := by rfl) (hplain : (backTo pos (starEach [] X.env)).any (·.1) = false := by rfl) :
    SdE X K cl (.Call (.Attribute o "append" apos) [e] [] pos) (tBM K "list" rAppend to (tCons te tNil)) (eApp O E) := ⟨ho.k, ho.k ▸ pe_bm PySem.F.plainAttrs_list PySem.F.slot_list_append PySem.F.type_list_append mt_append ho.pe (pa_cons he.pe pa_nil hs) hbase hfew hline hs hplain, fun T B H σ ρ M d M' Q s r h k => by
  obtain ⟨p, hp, h⟩ := bind_eq h
  obtain ⟨q, hq, h⟩ := bind_eq h
  obtain ⟨p1, M1⟩ := p
  obtain ⟨q1, M2⟩ := q
  cases p1 with
  | loc i =>
    have h : (match M1[i]?, M2[i]? with
      | some (.lst _), some (.lst xs) => if xs.length < 1000000 then some (.non, M2.set i (.lst (xs ++ [q1]))) else none
      | _, _ => none) = some (d, M') := h
    split at h
    · rename_i ys xs h1 h2
      split at h
      · rename_i hz
        cases h
        refine ho.ev T B H σ ρ M _ _ _ s r hp fun x T1 B1 H1 tr1 s1 r1 => ?_
        cases r1 with
        | loc hl =>
          rename_i a
          obtain ⟨o1, g1, vs1, rfl, _⟩ := s1.loc hl h1
          refine ⟨.inl ⟨rfl, vs1, .of g1⟩, he.ev T1 B1 H1 σ ρ _ _ _ _ s1 (r.tr tr1) hq fun y T2 B2 H2 tr2 s2 r2 => ?_⟩
          have hl2 := pre_get tr2.pre hl
          obtain ⟨hbn, o2, g2, vs2, rfl, r3⟩ := s2.live hl2 h2
          refine ⟨a, vs2, y, rfl, rfl, g2, lim_lt (by rw [r3.len]; omega), ?_⟩
          obtain ⟨t3, s3⟩ := s2.put (o := .lst (vs2 ++ [y])) (m := .lst (xs ++ [q1])) hl2 hbn ⟨_, rfl, r3.append (.cons r2 .nil)⟩
          exact k _ _ _ _ ((tr1.trans tr2).trans t3) s3 .non
      · cases h
    · cases h
  | _ => cases h⟩
end
end Y
set_option Elab.async false
set_option linter.all false
set_option maxRecDepth 100000
set_option maxHeartbeats 4000000
namespace Y
open PySem PySem.Spec PyProof.Rows L2
/-! ### built-in calls on data -/
def intsOf : List D → Option (List Int)
  | [] => some []
  | .int i :: r => (intsOf r).map (i :: ·)
  | _ :: _ => none
def bitsOf : List D → Option (List Bool)
  | [] => some []
  | .bl i :: r => (bitsOf r).map (i :: ·)
  | _ :: _ => none
theorem intsOf_map (ns : List Int) : intsOf (ns.map .int) = some ns := by
  induction ns with
  | nil => rfl
  | cons n ns ih => simp [intsOf, ih]
theorem bitsOf_map (ns : List Bool) : bitsOf (ns.map .bl) = some ns := by
  induction ns with
  | nil => rfl
  | cons n ns ih => simp [bitsOf, ih]
def cLen (M : Sto) : List D → Option D
  | [a] => match rd M a with
    | .lst xs => some (.int (xs.length : Int))
    | .rls xs => some (.int (xs.length : Int))
    | .tup xs => some (.int (xs.length : Int))
    | .str s => if s.length ≤ 1000000 then some (.int (s.length : Int)) else none
    | _ => none
  | _ => none
def cAbs (_ : Sto) : List D → Option D
  | [.int i] => some (.int (if i < 0 then -i else i))
  | _ => none
def cInt (_ : Sto) : List D → Option D
  | [.int i] => some (.int i)
  | [.bl b] => some (.int (if b then 1 else 0))
  | _ => none
def cMax2 (_ : Sto) : List D → Option D
  | [.int i, .int j] => some (.int (if j > i then j else i))
  | _ => none
def cMin2 (_ : Sto) : List D → Option D
  | [.int i, .int j] => some (.int (if j < i then j else i))
  | _ => none
def cSum (M : Sto) : List D → Option D
  | [a] => (isSq (rd M a)).bind fun xs => (intsOf xs).map fun ns => .int ns.sum
  | _ => none
def maxOf : List Int → Option Int
  | [] => none
  | x :: r => some (r.foldl (fun a b => if b > a then b else a) x)
def minOf : List Int → Option Int
  | [] => none
  | x :: r => some (r.foldl (fun a b => if b < a then b else a) x)
def cMax (M : Sto) : List D → Option D
  | [a] => (isSq (rd M a)).bind fun xs => (intsOf xs).bind fun ns => (maxOf ns).map .int
  | _ => none
def cMin (M : Sto) : List D → Option D
  | [a] => (isSq (rd M a)).bind fun xs => (intsOf xs).bind fun ns => (minOf ns).map .int
  | _ => none
def cAll (M : Sto) : List D → Option D
  | [a] => (isSq (rd M a)).bind fun xs => (bitsOf xs).map fun bs => .bl (bs.all id)
  | _ => none
def cAny (M : Sto) : List D → Option D
  | [a] => (isSq (rd M a)).bind fun xs => (bitsOf xs).map fun bs => .bl (bs.any id)
  | _ => none
def cSrt (M : Sto) : List D → Option D
  | [a] => (isSq (rd M a)).bind fun xs => (intsOf xs).map fun ns => .lst ((ns.mergeSort (fun x y => decide (x ≤ y))).map .int)
  | _ => none
def cGcd (_ : Sto) : List D → Option D
  | [.int a, .int b] => some (.int ((Nat.gcd a.natAbs b.natAbs : Nat) : Int))
  | _ => none
def cLcm (_ : Sto) : List D → Option D
  | [.int a, .int b] => if a.natAbs < 2 ^ 64 ∧ b.natAbs < 2 ^ 64 then some (.int ((Nat.lcm a.natAbs b.natAbs : Nat) : Int)) else none
  | _ => none
theorem foldMax_spec : ∀ (r : List Int) (x : Int), (r.foldl (fun a b => if b > a then b else a) x ∈ x :: r) ∧ ∀ y ∈ x :: r, y ≤ r.foldl (fun a b => if b > a then b else a) x
  | [], x => ⟨by simp, fun y hy => by simp at hy; simp [hy]⟩
  | z :: r, x => by
    simp only [List.foldl_cons]
    obtain ⟨w, hw⟩ : ∃ w, w = (if z > x then z else x) := ⟨_, rfl⟩
    rw [← hw]
    have hw1 : w = z ∨ w = x := by rw [hw]; split <;> simp
    have hw2 : x ≤ w ∧ z ≤ w := by rw [hw]; split <;> omega
    obtain ⟨h1, h2⟩ := foldMax_spec r w
    have hb := h2 w (by simp)
    constructor
    · rcases List.mem_cons.mp h1 with h | h
      · rw [h]; rcases hw1 with e | e <;> simp [e]
      · simp [h]
    · intro y hy
      rcases List.mem_cons.mp hy with rfl | hy
      · omega
      · rcases List.mem_cons.mp hy with rfl | hy
        · omega
        · exact h2 y (by simp [hy])
theorem foldMin_spec : ∀ (r : List Int) (x : Int), (r.foldl (fun a b => if b < a then b else a) x ∈ x :: r) ∧ ∀ y ∈ x :: r, r.foldl (fun a b => if b < a then b else a) x ≤ y
  | [], x => ⟨by simp, fun y hy => by simp at hy; simp [hy]⟩
  | z :: r, x => by
    simp only [List.foldl_cons]
    obtain ⟨w, hw⟩ : ∃ w, w = (if z < x then z else x) := ⟨_, rfl⟩
    rw [← hw]
    have hw1 : w = z ∨ w = x := by rw [hw]; split <;> simp
    have hw2 : w ≤ x ∧ w ≤ z := by rw [hw]; split <;> omega
    obtain ⟨h1, h2⟩ := foldMin_spec r w
    have hb := h2 w (by simp)
    constructor
    · rcases List.mem_cons.mp h1 with h | h
      · rw [h]; rcases hw1 with e | e <;> simp [e]
      · simp [h]
    · intro y hy
      rcases List.mem_cons.mp hy with rfl | hy
      · omega
      · rcases List.mem_cons.mp hy with rfl | hy
        · omega
        · exact h2 y (by simp [hy])
section
variable {X : Cx} {K : PySem.W.Frag} {cl : Nat → Addr} {T : List Addr} {B H : Hp} {M : Sto} {vs : List V} {ds xs : List D} {x : V} {a d : D} {Q : VK}
theorem len_K (hk : X.K = K := by rfl) : CallR X (.builtin "len") (fun xs H Q => ∃ x n, xs = [x] ∧ LenV K x H n ∧ Q (.int n) H) := hk ▸ call_len
theorem sum_K (hc : X.calm = true := by rfl) (hk : X.K = K := by rfl) : CallR X (.builtin "sum") (rSum K) := hk ▸ cr_sum hc
theorem max_K (hc : X.calm = true := by rfl) (hk : X.K = K := by rfl) : CallR X (.builtin "max") (rMax K) := hk ▸ cr_max hc
theorem min_K (hc : X.calm = true := by rfl) (hk : X.K = K := by rfl) : CallR X (.builtin "min") (rMin K) := hk ▸ cr_min hc
theorem all_K (hc : X.calm = true := by rfl) (hk : X.K = K := by rfl) : CallR X (.builtin "all") (rAll K) := hk ▸ cr_all hc
theorem any_K (hc : X.calm = true := by rfl) (hk : X.K = K := by rfl) : CallR X (.builtin "any") (rAny K) := hk ▸ cr_any hc
theorem srt_K (hk : X.K = K := by rfl) : CallR X (.builtin "sorted") (rSortedI K) := hk ▸ cr_sortedI
theorem reps_ints : ∀ {vs : List V} {xs : List D} {ns : List Int}, Reps K cl T B vs xs → intsOf xs = some ns → vs = ns.map V.int
  | vs, [], ns, r, h => by cases h; exact r.nil_inv
  | vs, x :: xs, ns, r, h => by
    obtain ⟨v, vr, rfl, r1, r2⟩ := r.cons_inv
    cases x with
    | int i =>
      obtain ⟨ms, h1, rfl⟩ := map_eq h
      cases r1
      rw [reps_ints r2 h1]
      rfl
    | _ => cases h
theorem reps_bits : ∀ {vs : List V} {xs : List D} {ns : List Bool}, Reps K cl T B vs xs → bitsOf xs = some ns → vs = ns.map V.bl
  | vs, [], ns, r, h => by cases h; exact r.nil_inv
  | vs, x :: xs, ns, r, h => by
    obtain ⟨v, vr, rfl, r1, r2⟩ := r.cons_inv
    cases x with
    | bl i =>
      obtain ⟨ms, h1, rfl⟩ := map_eq h
      cases r1
      rw [reps_bits r2 h1]
      rfl
    | _ => cases h
theorem reps_ofInts : ∀ (ns : List Int), Reps K cl T B (ns.map V.int) (ns.map D.int)
  | [] => .nil
  | n :: ns => .cons (.int n) (reps_ofInts ns)
theorem Reps.one (r : Reps K cl T B vs [d]) : ∃ v, vs = [v] ∧ Rep K cl T B v d := by
  obtain ⟨v, vr, rfl, r1, r2⟩ := r.cons_inv
  cases r2.nil_inv
  exact ⟨v, rfl, r1⟩
theorem Reps.two (r : Reps K cl T B vs [a, d]) : ∃ v w, vs = [v, w] ∧ Rep K cl T B v a ∧ Rep K cl T B w d := by
  obtain ⟨v, vr, rfl, r1, r2⟩ := r.cons_inv
  obtain ⟨w, rfl, r3⟩ := r2.one
  exact ⟨v, w, rfl, r1, r3⟩
theorem ok_len : CaOk K cl (fun xs H Q => ∃ x n, xs = [x] ∧ LenV K x H n ∧ Q (.int n) H) cLen := fun T B H M vs ds d Q s r h k => by
  unfold cLen at h
  split at h
  · obtain ⟨v, rfl, r1⟩ := r.one
    split at h
    · rename_i xs e
      cases h
      obtain ⟨p, ws, rfl, e2, e3⟩ := rd_lst s r1 e
      exact ⟨_, xs.length, rfl, .inl ⟨ws, .of e2, e3.len.symm⟩, kon0 s k (.int _)⟩
    · rename_i xs e
      cases h
      obtain ⟨p, ws, rfl, e2, e3⟩ := rd_sq (xs := xs) s r1 (by rw [e]; rfl)
      exact ⟨_, xs.length, rfl, .inl ⟨ws, e2, e3.len.symm⟩, kon0 s k (.int _)⟩
    · rename_i xs e
      cases h
      obtain ⟨p, ws, rfl, e2, e3⟩ := rd_tup s r1 e
      exact ⟨_, xs.length, rfl, .inr ⟨ws, e2, e3.len.symm⟩, kon0 s k (.int _)⟩
    · rename_i z e
      split at h
      · rename_i hz
        cases h
        obtain rfl := rd_str r1 e
        exact ⟨_, z.length, rfl, ⟨lim_le hz, rfl⟩, kon0 s k (.int _)⟩
      · cases h
    · cases h
  · cases h
theorem ok_abs : CaOk K cl (fun xs H Q => ∃ i, xs = [.int i] ∧ Q (.int (if i < 0 then -i else i)) H) cAbs := fun T B H M vs ds d Q s r h k => by
  unfold cAbs at h
  split at h
  · cases h
    obtain ⟨v, rfl, r1⟩ := r.one
    cases r1
    exact ⟨_, rfl, kon0 s k (.int _)⟩
  · cases h
theorem ok_int : CaOk K cl (fun xs H Q => (∃ i, xs = [.int i] ∧ Q (.int i) H) ∨ ∃ k, xs = [.bl k] ∧ Q (.int (if k then 1 else 0)) H) cInt := fun T B H M vs ds d Q s r h k => by
  unfold cInt at h
  split at h
  · cases h
    obtain ⟨v, rfl, r1⟩ := r.one
    cases r1
    exact .inl ⟨_, rfl, kon0 s k (.int _)⟩
  · cases h
    obtain ⟨v, rfl, r1⟩ := r.one
    cases r1
    exact .inr ⟨_, rfl, kon0 s k (.int _)⟩
  · cases h
theorem ok_max2 : CaOk K cl (fun xs H Q => ∃ i j, xs = [.int i, .int j] ∧ Q (.int (if j > i then j else i)) H) cMax2 := fun T B H M vs ds d Q s r h k => by
  unfold cMax2 at h
  split at h
  · cases h
    obtain ⟨v, w, rfl, r1, r2⟩ := r.two
    cases r1; cases r2
    exact ⟨_, _, rfl, kon0 s k (.int _)⟩
  · cases h
theorem ok_min2 : CaOk K cl (fun xs H Q => ∃ i j, xs = [.int i, .int j] ∧ Q (.int (if j < i then j else i)) H) cMin2 := fun T B H M vs ds d Q s r h k => by
  unfold cMin2 at h
  split at h
  · cases h
    obtain ⟨v, w, rfl, r1, r2⟩ := r.two
    cases r1; cases r2
    exact ⟨_, _, rfl, kon0 s k (.int _)⟩
  · cases h
theorem ok_sum : CaOk K cl (rSum K) cSum := fun T B H M vs ds d Q s r h k => by
  unfold cSum at h
  split at h
  · obtain ⟨v, rfl, r1⟩ := r.one
    obtain ⟨xs, e, h⟩ := bind_eq h
    obtain ⟨ns, e1, h⟩ := map_eq h
    cases h
    obtain ⟨p, ws, rfl, e2, e3⟩ := rd_sq s r1 e
    cases reps_ints e3 e1
    exact ⟨p, ns, rfl, e2, kon0 s k (.int _)⟩
  · cases h
theorem ok_maxL : CaOk K cl (rMax K) cMax := fun T B H M vs ds d Q s r h k => by
  unfold cMax at h
  split at h
  · obtain ⟨v, rfl, r1⟩ := r.one
    obtain ⟨xs, e, h⟩ := bind_eq h
    obtain ⟨ns, e1, h⟩ := bind_eq h
    obtain ⟨m, e4, h⟩ := map_eq h
    cases h
    obtain ⟨p, ws, rfl, e2, e3⟩ := rd_sq s r1 e
    cases reps_ints e3 e1
    cases ns with
    | nil => cases e4
    | cons n ns =>
      cases e4
      refine ⟨p, n :: ns, rfl, e2, by simp, fun m hm hle => ?_⟩
      obtain ⟨h1, h2⟩ := foldMax_spec ns n
      have e5 := Int.le_antisymm (h2 m hm) (hle _ h1)
      rw [e5]
      exact kon0 s k (.int _)
  · cases h
theorem ok_minL : CaOk K cl (rMin K) cMin := fun T B H M vs ds d Q s r h k => by
  unfold cMin at h
  split at h
  · obtain ⟨v, rfl, r1⟩ := r.one
    obtain ⟨xs, e, h⟩ := bind_eq h
    obtain ⟨ns, e1, h⟩ := bind_eq h
    obtain ⟨m, e4, h⟩ := map_eq h
    cases h
    obtain ⟨p, ws, rfl, e2, e3⟩ := rd_sq s r1 e
    cases reps_ints e3 e1
    cases ns with
    | nil => cases e4
    | cons n ns =>
      cases e4
      refine ⟨p, n :: ns, rfl, e2, by simp, fun m hm hle => ?_⟩
      obtain ⟨h1, h2⟩ := foldMin_spec ns n
      have e5 := Int.le_antisymm (hle _ h1) (h2 m hm)
      rw [e5]
      exact kon0 s k (.int _)
  · cases h
theorem ok_all : CaOk K cl (rAll K) cAll := fun T B H M vs ds d Q s r h k => by
  unfold cAll at h
  split at h
  · obtain ⟨v, rfl, r1⟩ := r.one
    obtain ⟨xs, e, h⟩ := bind_eq h
    obtain ⟨ns, e1, h⟩ := map_eq h
    cases h
    obtain ⟨p, ws, rfl, e2, e3⟩ := rd_sq s r1 e
    cases reps_bits e3 e1
    exact ⟨p, ns, rfl, e2, kon0 s k (.bl _)⟩
  · cases h
theorem ok_any : CaOk K cl (rAny K) cAny := fun T B H M vs ds d Q s r h k => by
  unfold cAny at h
  split at h
  · obtain ⟨v, rfl, r1⟩ := r.one
    obtain ⟨xs, e, h⟩ := bind_eq h
    obtain ⟨ns, e1, h⟩ := map_eq h
    cases h
    obtain ⟨p, ws, rfl, e2, e3⟩ := rd_sq s r1 e
    cases reps_bits e3 e1
    exact ⟨p, ns, rfl, e2, kon0 s k (.bl _)⟩
  · cases h
theorem ok_srt : CaOk K cl (rSortedI K) cSrt := fun T B H M vs ds d Q s r h k => by
  unfold cSrt at h
  split at h
  · obtain ⟨v, rfl, r1⟩ := r.one
    obtain ⟨xs, e, h⟩ := bind_eq h
    obtain ⟨ns, e1, h⟩ := map_eq h
    cases h
    obtain ⟨p, ws, rfl, e2, e3⟩ := rd_sq s r1 e
    cases reps_ints e3 e1
    refine ⟨p, ns, rfl, e2, fun ns' q hp ho hq => ?_⟩
    rw [PySem.W.os_sorted_mergeSort hp ho]
    exact kon_lst s k (reps_ofInts _) hq
  · cases h
theorem ok_gcd : CaOk K cl rGcd cGcd := fun T B H M vs ds d Q s r h k => by
  unfold cGcd at h
  split at h
  · cases h
    obtain ⟨v, w, rfl, r1, r2⟩ := r.two
    cases r1; cases r2
    exact ⟨_, _, rfl, kon0 s k (.int _)⟩
  · cases h
def rLcm : List V → Hp → VK → Prop := fun vs H Q => ∃ a b : Int, vs = [.int a, .int b] ∧ a.natAbs < 2 ^ 64 ∧ b.natAbs < 2 ^ 64 ∧ Q (.int ((Nat.lcm a.natAbs b.natAbs : Nat) : Int)) H
theorem cr_lcm : CallR X (.builtin "math.lcm") rLcm := by
  intro pins s σ H vs us Q I r h
  obtain ⟨a, b, rfl, h1, h2, q⟩ := h
  obtain ⟨t, u, rfl⟩ := Vals.int2 r
  exact PySem.W.mc_lcm h1 h2 fun _ => ⟨.int _, H, I.tok _, ⟨_, rfl⟩, q⟩
theorem ok_lcm : CaOk K cl rLcm cLcm := fun T B H M vs ds d Q s r h k => by
  unfold cLcm at h
  split at h
  · split at h
    · rename_i hz
      cases h
      obtain ⟨v, w, rfl, r1, r2⟩ := r.two
      cases r1; cases r2
      exact ⟨_, _, rfl, hz.1, hz.2, kon0 s k (.int _)⟩
    · cases h
  · cases h
variable {e : Expr} {es : List Expr} {ta : TA} {Aa : EA} {pos p : Pos}
theorem sd_callG {id : String} {x : Str} {r : List V → Hp → VK → Prop} {f : Sto → List D → Option D} (hc : CallR X (.builtin id) r) (hr : CaOk K cl r f) (hg : Gl X x) (hm : X.mg x = some (.builtin id)) (ha : SdA X K cl (e :: es) ta Aa)
    (hdb : (x == ("__debug__" : Str)) = false := by decide) (he : starEach (e :: es) X.env = (false, eval e X.env) :: starEach es X.env := by rfl) (hpl : (backTo pos (starEach es X.env)).any (·.1) = false := by rfl) :
    SdE X K cl (.Call (.Name x p) (e :: es) [] pos) (tCB r ta) (eCa f Aa) := ⟨ha.k, pe_callBfun hc hg hm ha.pe hdb he hpl, EvA.ca hr ha.ev⟩
end
/-! ### repr, == of data -/
mutual
def toPy : D → PyData
  | .non => .none
  | .bl b => .bool b
  | .int i => .int i
  | .str s => .str s
  | .lst xs => .list (toPys xs)
  | .rls xs => .list (toPys xs)
  | .tup xs => .tuple (toPys xs)
  | .obj _ _ => .none
  | .loc _ => .none
def toPys : List D → List PyData
  | [] => []
  | d :: r => toPy d :: toPys r
end
mutual
def flatD : D → Bool
  | .lst xs => flatL xs
  | .rls xs => flatL xs
  | .tup xs => flatL xs
  | .obj _ _ => false
  | .loc _ => false
  | .non => true
  | .bl _ => true
  | .int _ => true
  | .str _ => true
def flatL : List D → Bool
  | [] => true
  | d :: r => flatD d && flatL r
end
section
variable {K : PySem.W.Frag} {cl : Nat → Addr} {T : List Addr} {B H : Hp}
mutual
theorem rep_py (e : Same B H) : ∀ (d : D) (v : V), Rep K cl T B v d → flatD d = true → Dp K H v (toPy d)
  | .non, v, r, _ => by cases r; exact .non
  | .bl b, v, r, _ => by cases r; exact .bl b
  | .int i, v, r, _ => by cases r; exact .int i
  | .str s, v, r, _ => by cases r; exact .str s
  | .lst xs, v, r, h => by
    cases r with
    | lst h0 l g => exact .lst (.of (e _ _ h0)) (reps_py e xs _ ⟨l, g⟩ (by simpa [flatD] using h))
  | .rls xs, v, r, h => by
    cases r with
    | rls h0 l g => exact .lst (e.seq h0) (reps_py e xs _ ⟨l, g⟩ (by simpa [flatD] using h))
  | .tup xs, v, r, h => by
    cases r with
    | tup h0 l g => exact .tup (same_sqt e h0) (reps_py e xs _ ⟨l, g⟩ (by simpa [flatD] using h))
  | .obj _ _, v, r, h => by simp [flatD] at h
  | .loc _, v, r, h => by simp [flatD] at h
theorem reps_py (e : Same B H) : ∀ (ds : List D) (vs : List V), Reps K cl T B vs ds → flatL ds = true → DpAll K H vs (toPys ds)
  | [], vs, r, _ => by cases r.nil_inv; exact .nil
  | d :: ds, vs, r, h => by
    obtain ⟨v, vr, rfl, r1, r2⟩ := r.cons_inv
    simp only [flatL, Bool.and_eq_true] at h
    exact .cons (rep_py e d v r1 h.1) (reps_py e ds vr r2 h.2)
end
end
def shownD (d : D) : Str := (toPy d).shown
def showOk (d : D) : Bool := flatD d && (toPy d).showable && decide ((toPy d).depth ≤ 50) && decide ((toPy d).shown.length ≤ 1000000) && !(toPy d).hasDict
def cRepr (_ : Sto) : List D → Option D
  | [a] => if showOk a = true then some (.str (shownD a)) else none
  | _ => none
def rRepr (K : PySem.W.Frag) : List V → Hp → VK → Prop := fun vs H Q => ∃ x d, vs = [x] ∧ Dp K H x d ∧ d.showable = true ∧ d.hasDict = false ∧ d.depth ≤ 50 ∧ d.shown.length ≤ sizeLine ∧ Q (.str d.shown) H
section
variable {X : Cx} {K : PySem.W.Frag} {cl : Nat → Addr}
theorem cr_repr (hg : X.A.guards = some []) (hu : X.A.units + 64 < cLine) : CallR X (.builtin "repr") (rRepr X.K) := by
  intro pins s σ H vs us Q I r h
  obtain ⟨x, d, rfl, hd, h1, h2, h3, h4, q⟩ := h
  obtain ⟨u, rfl, ru⟩ := vals1 r
  obtain ⟨as, rr⟩ := Dp.reads I d x u hd ru
  have key : ∀ {a : Addr}, u = .ref a → wpAny (model X.prog X.w) X.A (call (.builtin "repr") [u]) (EP X pins σ Q) X.xe s := fun {a} e => by
    subst e
    refine repr_of_reads' rr h1 (fun z => absurd z (by rw [h2]; exact Bool.false_ne_true)) hg (by omega) (fun _ _ z => z) (fun h' u tk hk => ?_) h4
    exact ⟨.str d.shown, H, I.kept (t' := tk) hk, ⟨_, rfl⟩, q⟩
  cases rr with
  | none => exact PySem.P.repr_of_none ⟨.str _, H, I.tok _, ⟨_, rfl⟩, q⟩
  | bool b => exact PySem.P.repr_of_bool ⟨.str _, H, I.tok _, ⟨_, rfl⟩, q⟩
  | int i t => exact PySem.P.repr_of_int (by simpa [PyData.showable] using h1) ⟨.str _, H, I.tok _, ⟨_, rfl⟩, q⟩
  | str z t => exact PySem.P.repr_of_str ⟨.str _, H, I.tok _, ⟨_, rfl⟩, q⟩
  | list => exact key rfl
  | tuple => exact key rfl
  | dict => exact key rfl
theorem repr_K (hg : X.A.guards = some []) (hu : X.A.units + 64 < cLine) (hk : X.K = K := by rfl) : CallR X (.builtin "repr") (rRepr K) := hk ▸ cr_repr hg hu
theorem ok_repr : CaOk K cl (rRepr K) cRepr := fun T B H M vs ds d Q s r h k => by
  unfold cRepr at h
  split at h
  · split at h
    · rename_i a hz
      cases h
      obtain ⟨v, rfl, r1⟩ := r.one
      simp only [showOk, Bool.and_eq_true, decide_eq_true_eq, Bool.not_eq_true'] at hz
      obtain ⟨⟨⟨⟨z1, z2⟩, z3⟩, z4⟩, z5⟩ := hz
      exact ⟨v, toPy a, rfl, rep_py s.ex a v r1 z1, z2, z5, z3, lim_le z4, kon0 s k (.str _)⟩
    · cases h
  · cases h
end
end Y
set_option Elab.async false
set_option linter.all false
set_option maxRecDepth 100000
set_option maxHeartbeats 4000000
namespace Y
open PySem PySem.Spec PyProof.Rows L2
/-! ### a def that is called where no repr runs (the law) -/
structure FnG (P : Program) (w : World) (K : PySem.W.Frag) (mg : Str → Option Value) (base : Heap) (k : Nat) (f : Addr) (fd : FuncData) (ps : List Str) (sp : Sp) : Prop where
  len : ∀ vs H Q E, sp vs H Q E → vs.length = ps.length
  run : ∀ (A : Around) (fr : List Env) (s : Shared) (H : Hp) (args : Args) (us : List Value) (vs : List V) (Q : VK) (E : XK), A.guards = some [] → Room k A → Env0 P w K mg base A fr s H → BindsTo s fd args (ps.zip us) → Vals vs us → sp vs H Q E →
    codeAny (model P w) A (.call (.ref f) args) (CR CX0 fr P w H s Q E) s
section
variable {P : Program} {w : World} {K : PySem.W.Frag} {mg : Str → Option Value} {base : Heap} {cl : Nat → Addr}
theorem guards_deeper {A : Around} {env : Env} (h : A.guards = some []) : (A.deeper env).guards = some [] := by
  exact h
theorem fnG_of {x qual : Str} {st : Stmt} {f : Addr} {fd : FuncData} {N ps : List Str} {k : Nat} {sp : Sp} (F : Fun K x qual st f fd) (S : FnScope N ps (defScope st)) (len : ∀ vs H Q E, sp vs H Q E → vs.length = ps.length)
    (hb : ∀ (cdv : Value) (A : Around) (fr : List Env) (s : Shared) (H : Hp) (vs : List V) (Q : VK) (E : XK), (A.deeper (envOfC qual (defScope st) s.heap.objs.size f cdv)).guards = some [] → Room k (A.deeper (envOfC qual (defScope st) s.heap.objs.size f cdv)) → sp vs H Q E →
      ∃ t, PSs (cxOf CX0 P w K mg base N qual (defScope st) f cdv A fr s H E).nox (defBody st) t ∧ t { nx := fun _ H' => Q .non H', rt := Q } (L2.start N vs) H) : FnG P w K mg base (k + 1) f fd ps sp := by
  obtain ⟨oc, od, kV, doc, pm, an, cdv, ct, osl, rfl, lk, hcd⟩ := F.ex
  refine ⟨len, fun A fr s H args us vs Q E hG hr e0 bi rv hsp => ?_⟩
  have KX : K.In s.heap := e0.mod.kin.keeps fun b o e => (e0.bs b o e).1
  have noL : s.heap.NoLimit := e0.mod.nolimit.keeps fun b o e => (e0.bs b o e).1
  have kinds : ∀ y ∈ ps.zip us, (defScope st).names.lookup y.1 = some .local ∨ ((defScope st).names.lookup y.1 = some .cell ∧ ((cellsFrom (s.heap.objs.size + 1) (defScope st).names []).lookup y.1).isSome = true) := by
    intro y hy
    cases S.par y.1 (List.of_mem_zip hy).1 with
    | inl q => exact .inl q
    | inr q => exact .inr ⟨q, PySem.W.cellsFrom_some _ _ _ (.inl q)⟩
  refine codeAny_call_function hr.depth (KX _ _ lk) rfl S.co S.gen rfl (PySem.W.codeRec_of KX hcd) (bi _ _ _ _ (wpAny_newFunctionEnv_cells S.kind kinds fun env he s1 x => ?_))
  subst he
  refine ⟨noL.keeps x.toInCall.keep, codeAny_func ?_⟩
  obtain ⟨t, ht, hq⟩ := hb cdv A fr s H vs Q E (guards_deeper hG) (hr.deeper _) hsp
  have I0 := inv_start (CX := CX0) (cd := cdv) (E := E) S hr.hd e0 (len _ _ _ _ hsp) rv x
  refine wpAny_mono (ht.nox.run [] s1 (L2.start N vs) H _ I0 hq) (fun fl s' hs => ?_) fun e s' hs => hs
  cases fl with
  | ret u => obtain ⟨v, _, H', J, r, q⟩ := hs; exact ⟨v, H', J.os, J.bare, J.base, J.hok, r, q⟩
  | next => obtain ⟨_, H', J, q⟩ := hs; exact ⟨V.non, H', J.os, J.bare, J.base, J.hok, rfl, q⟩
  | brk => obtain ⟨_, _, _, q⟩ := hs; cases q
  | cont => obtain ⟨_, _, _, q⟩ := hs; cases q
/-- the law's promise: it hands back True -/
def SpLaw (K : PySem.W.Frag) (n : Nat) (b : ES) : Sp := fun vs H Q _ => ∃ (a : Addr) (ns : List Int), vs = [.ref a] ∧ SqL K H a (ns.map V.int) ∧ Only H ∧
  (∃ M, b (some (.rls (ns.map .int)) :: List.replicate (n - 1) none) [] = some (.rt (.bl true), M)) ∧ ∀ H', Q (.bl true) H'
theorem ok_law {x qual : Str} {st : Stmt} {f : Addr} {fd : FuncData} {N : List Str} {p : Str} {k : Nat} (F : Fun K x qual st f fd) (S : FnScope N [p] (defScope st)) {b : ES}
    (hb : ∀ (cdv : Value) (A : Around) (fr : List Env) (s : Shared) (H : Hp) (E : XK), (A.deeper (envOfC qual (defScope st) s.heap.objs.size f cdv)).guards = some [] → Room k (A.deeper (envOfC qual (defScope st) s.heap.objs.size f cdv)) → ∃ t, SdB K cl (cxOf CX0 P w K mg base N qual (defScope st) f cdv A fr s H E).nox (defBody st) t b) :
    FnG P w K mg base (k + 1) f fd [p] (SpLaw K N.length b) := by
  refine fnG_of F S (fun vs H Q E h => by obtain ⟨a, ns, rfl, _⟩ := h; rfl) (fun cdv A fr s H vs Q E hG hr h => ?_)
  obtain ⟨t, hs⟩ := hb cdv A fr s H E hG hr
  refine ⟨t, hs.pe, ?_⟩
  obtain ⟨a, ns, rfl, hS, hO, ⟨M, hrun⟩, q⟩ := h
  -- what is kept for good: the script alone
  have r1 : Reps K cl [] H [.ref a] [.rls (ns.map .int)] := .cons (.rls hS (by simp) (reps_ofInts (K := K) (cl := cl) ns).get) .nil
  have sl := start_sl (N := N) r1
  refine hs.ev [] H H _ _ [] (.rt (.bl true)) M _ (.nil (Same.refl _)) sl hrun fun v T' B' H' tr s' r' => ?_
  cases r'
  exact q H'
end
/-! ### the end of a law's row -/
theorem law_runG {P : Program} {w : World} {K : PySem.W.Frag} {mg mb : Str → Option Value} {k : Nat} {fa a : Addr} {fd : FuncData} {x : Str} {sp : Sp} {s0 : Shared} {us : List Value} {ns : List Int}
    (KX : K.In s0.heap) (nsM : s0.heap.Ns mainGlobals mg) (nsB : s0.heap.Ns builtinsNs mb) (isB : ∀ y : Str, y ≠ "__name__" → mb y = bootBuiltins y) (lim : s0.heap.NoLimit) (gens : s0.gens = #[])
    (at0 : s0.heap.get? a = some { cls := .type "list", data := .seq us.toArray }) (isI : IntsAre us ns) (few : ns.length ≤ sizeLine) (room : Room k callerA)
    (F : ∀ base : Heap, K.In base → base.Ns mainGlobals mg → FnG P w K mg base k fa fd [x] sp) (binds : ∀ (s : Shared) (u : Value), BindsTo s fd ⟨[u], []⟩ [(x, u)])
    (sps : ∀ H : Hp, Only H → SqL K H a (ns.map V.int) → sp [.ref a] H (fun v _ => v = .bl true) fun _ _ _ => False) :
    codeAny (model P w) callerA (.call (.ref fa) ⟨[.ref a], []⟩) (fun r s' => r = .ok (.ret (.bool true)) ∧ OldK s0.heap s'.heap ∧ s'.os = s0.os ∧ AllBare s'.gens) s0 := by
  have vals := vals_ints isI
  have main : ∀ H : Hp, Only H → SqL K H a (ns.map V.int) → HOk P w H s0.heap → (∀ b, H b ≠ none → b = a ∧ K.lookup a = none) →
      codeAny (model P w) callerA (.call (.ref fa) ⟨[.ref a], []⟩) (fun r s' => r = .ok (.ret (.bool true)) ∧ OldK s0.heap s'.heap ∧ s'.os = s0.os ∧ AllBare s'.gens) s0 := by
    intro H hO hS hok only
    have free : ∀ {b : Addr} {o : Obj}, s0.heap.get? b = some o → (b = a → False) → H b = none := fun {b o} e ne => by
      cases q : H b with
      | none => rfl
      | some u => exact (ne (only b (by rw [q]; exact nofun)).1).elim
    have dicts : ∀ {b : Addr} {o : Obj} {es : Array DictEntry} {ep : Nat}, s0.heap.get? b = some o → o.data = .dict es ep → H b = none := fun {b o es ep} e d => free e fun eb => by
      subst eb
      rw [at0] at e; cases e
      have d' : Data.seq us.toArray _ = Data.dict es ep := d
      cases d'
    have spaces : ∀ {b : Addr} {m : Str → Option Value}, s0.heap.Ns b m → (hidT s0.heap H).Ns b m := fun {b m} ⟨o, es, ep, e, d, rest⟩ => ⟨o, es, ep, hidT_get e (dicts e d), d, rest⟩
    have kin : K.In (hidT s0.heap H) := fun b o e => hidT_get (KX b o e) <| by
      cases q : H b with
      | none => rfl
      | some u =>
        obtain ⟨rfl, z⟩ := only b (by rw [q]; exact nofun)
        rw [z] at e; cases e
    obtain ⟨ml, l1, l2⟩ := lim
    have e0 : Env0 P w K mg (hidT s0.heap H) callerA [] s0 H := ⟨rfl, ⟨kin, spaces nsM, ⟨mb, spaces nsB, isB⟩, ⟨ml, spaces l1, l2⟩⟩, fun b o e => of_hidT e, Nat.le_of_eq (hidT_size _ _), trivial, fun b hb => absurd (show b ∈ ([] : List Addr) from hb) (by simp), hok, AllBare.of_eq gens⟩
    refine codeAny_mono ((F _ kin (spaces nsM)).run callerA [] s0 H ⟨[.ref a], []⟩ [.ref a] [.ref a] _ _ rfl room e0 (binds s0 (.ref a)) (.cons rfl .nil) (sps H hO hS)) fun r s' hr => ?_
    match r, hr with
    | .error e, z => exact False.elim z
    | .ok (.ret u), ⟨v, H', os, bare, un, hok', ru, qv⟩ =>
      have qv' : v = .bl true := qv
      subst qv'
      have eu : u = Value.bool true := ru
      subst eu
      refine ⟨rfl, OldK.of_keep fun b o e => ?_, os, bare⟩
      rcases hO b with z | ⟨ob, xs, z⟩
      · exact un.keep b o e z (fun y => absurd (show b ∈ ([] : List Addr) from y) (by simp)) (by simp)
      · have z2 := un.frzs b ob _ z
        have g1 := (show ObjOk P w H s0.heap b (.frz ob (.lst xs)) from hok b _ z).1
        have g2 := (show ObjOk P w H' s'.heap b (.frz ob (.lst xs)) from hok' b _ z2).1
        rw [g1] at e; cases e
        exact g2
    | .ok .next, z => exact False.elim z
    | .ok .brk, z => exact False.elim z
    | .ok .cont, z => exact False.elim z
  cases hk : K.lookup a with
  | some o =>
    have e := KX a o hk
    rw [at0] at e; cases e
    exact main (fun _ => none) (fun _ => .inl rfl) (.inr ⟨_, us.toArray, _, hk, rfl, rfl, rfl, by rw [List.size_toArray, isI.length]; exact few, by simpa using vals⟩) (fun b u z => by cases (show (none : Option HO) = some u from z)) fun b z => absurd rfl z
  | none =>
    have hit : ∀ {b : Addr} {u : HO}, (if b = a then some (HO.frz { cls := .type "list", data := .seq us.toArray } (.lst (ns.map V.int))) else none) = some u → b = a ∧ u = .frz { cls := .type "list", data := .seq us.toArray } (.lst (ns.map V.int)) := fun {b u} z => by
      split at z
      · rename_i hb; cases z; exact ⟨hb, rfl⟩
      · cases z
    refine main (fun b => if b = a then some (.frz { cls := .type "list", data := .seq us.toArray } (.lst (ns.map V.int))) else none) (fun b => ?_) (.inl (.inr ⟨_, if_pos rfl⟩)) (fun b u z => ?_) fun b z => ?_
    · by_cases hb : b = a
      · exact .inr ⟨_, _, if_pos hb⟩
      · exact .inl (if_neg hb)
    · obtain ⟨rfl, rfl⟩ := hit z
      exact ⟨at0, by rw [List.length_map]; exact few, us, _, vals, at0⟩
    · by_cases hb : b = a
      · exact ⟨hb, hk⟩
      · exact absurd (if_neg hb) z
/-- the goal that k_head leaves, from the law's promise -/
theorem walkG {l : PySem.W.OpenLaw} {n k : Nat} {q : Program} {loose : List Str} {XP : (Str → Option Value) → Heap → Prop} {YP : World → Heap → Prop} {d : DefRec} {K : Params → PySem.W.Frag} {sp : World → Sp} {x : Str}
    (hn : l.most = some n) (hn2 : n ≤ sizeLine) (hdf : d.params.defaults = []) (hr : Room k callerA)
    (hY : ∀ (w : World) (h : Heap), YP w h → (K w.params).In h)
    (F : ∀ (w : World) (mg : Str → Option Value) (fa : Addr) (h : Heap), (K w.params).In h → h.Ns mainGlobals mg → mg d.name = some (.ref fa) →
      ∃ fd : FuncData, (∀ (s : Shared) (u : Value), BindsTo s fd ⟨[u], []⟩ [(x, u)]) ∧ ∀ base : Heap, (K w.params).In base → base.Ns mainGlobals mg → FnG l.prog w (K w.params) mg base k fa fd [x] (sp w))
    (hsp : ∀ (w : World) (H : Hp) (a : Addr) (ns : List Int), ns.length ≤ n → Only H → SqL (K w.params) H a (ns.map V.int) → sp w [.ref a] H (fun v _ => v = .bl true) fun _ _ _ => False) :
    PySem.W.WalkO q loose XP YP l.row.toRowW d [] (fun f vs => PySem.call f vs) := by
  refine Att.attach_call hn hdf fun w s0 s1 mg mb fa o pm cd doc a us ns G Y ho hd hcd hmg hobj hints hlen hg => ?_
  have KX := hY w _ Y
  obtain ⟨fd, hb, hF⟩ := F w mg fa _ KX G.T.g hmg
  exact law_runG KX G.T.g G.T.b G.T.builtins G.T.nolimit hg hobj hints (Nat.le_trans hlen hn2) hr hF hb fun H hO hS => hsp w H a ns hlen hO hS
end Y
set_option Elab.async false
set_option linter.all false
set_option maxRecDepth 100000
set_option maxHeartbeats 4000000
namespace Y
open PySem PySem.Spec PyProof.Rows L2
/-! ### running the functions that were printed -/
def turn (G : EG) (b : ES) (d : D) (ρ : Rho) (M : Sto) : Option (Fl × Sto) := (G d ρ M).bind fun p => b p.1 p.2
theorem forGo_nil {G : EG} {b : ES} {src : Src} {ρ : Rho} {M : Sto} : forGo G b src [] ρ M = some (.nx ρ, M) := rfl
theorem forGo_cons {G : EG} {b : ES} {src : Src} {d : D} {r : List D} {ρ : Rho} {M : Sto} : forGo G b src (d :: r) ρ M = (turn G b d ρ M).bind fun q => match q.1 with
    | .nx ρ1 => @ite _ (Chk src q.2) (Classical.propDecidable _) (forGo G b src r ρ1 q.2) none
    | .ct ρ1 => @ite _ (Chk src q.2) (Classical.propDecidable _) (forGo G b src r ρ1 q.2) none
    | .bk ρ1 => some (.nx ρ1, q.2)
    | .rt d => some (.rt d, q.2) := by
  show (G d ρ M).bind _ = ((G d ρ M).bind _).bind _
  cases G d ρ M <;> rfl
theorem forGo_nx {G : EG} {b : ES} {d : D} {r : List D} {ρ ρ1 : Rho} {M M1 : Sto} (h : turn G b d ρ M = some (.nx ρ1, M1)) : forGo G b none (d :: r) ρ M = forGo G b none r ρ1 M1 := by
  rw [forGo_cons, h]
  exact if_pos chk_none
theorem forGo_ct {G : EG} {b : ES} {d : D} {r : List D} {ρ ρ1 : Rho} {M M1 : Sto} (h : turn G b d ρ M = some (.ct ρ1, M1)) : forGo G b none (d :: r) ρ M = forGo G b none r ρ1 M1 := by
  rw [forGo_cons, h]
  exact if_pos chk_none
theorem forGo_rt {G : EG} {b : ES} {src : Src} {d e : D} {r : List D} {ρ : Rho} {M M1 : Sto} (h : turn G b d ρ M = some (.rt e, M1)) : forGo G b src (d :: r) ρ M = some (.rt e, M1) := by
  rw [forGo_cons, h]
  rfl
/-- a loop by what holds between its turns -/
theorem forGo_inv {G : EG} {b : ES} (P : Nat → Rho → Sto → Prop) : ∀ (xs : List D) (k : Nat) (ρ : Rho) (M : Sto), (∀ i d ρ M, xs[i]? = some d → P (k + i) ρ M → ∃ ρ1 M1, turn G b d ρ M = some (.nx ρ1, M1) ∧ P (k + i + 1) ρ1 M1) → P k ρ M →
    ∃ ρ1 M1, forGo G b none xs ρ M = some (.nx ρ1, M1) ∧ P (k + xs.length) ρ1 M1
  | [], k, ρ, M, _, h0 => ⟨ρ, M, rfl, h0⟩
  | d :: r, k, ρ, M, h, h0 => by
    obtain ⟨ρ1, M1, e, h1⟩ := h 0 d ρ M rfl h0
    obtain ⟨ρ2, M2, e2, h2⟩ := forGo_inv P r (k + 1) ρ1 M1 (fun i d ρ M hi hp => by
      have := h (i + 1) d ρ M (by simpa using hi) (by rw [show k + (i + 1) = k + 1 + i by omega]; exact hp)
      rwa [show k + (i + 1) + 1 = k + 1 + i + 1 by omega] at this) h1
    refine ⟨ρ2, M2, (forGo_nx e).trans e2, ?_⟩
    rw [List.length_cons, show k + (r.length + 1) = k + 1 + r.length by omega]
    exact h2
theorem rngD_len {lo hi : Int} : (rngD lo hi).length = (hi - lo).toNat := by
  unfold rngD
  simp
theorem rng_get {lo hi : Int} {i : Nat} {d : D} (h : (rngD lo hi)[i]? = some d) : d = .int (lo + (i : Int)) ∧ lo + (i : Int) < hi := by
  unfold rngD at h
  rw [List.getElem?_map] at h
  obtain ⟨j, h1, h2⟩ := map_eq h
  have hl := (List.getElem?_eq_some_iff.mp h1).1
  rw [List.length_range] at hl
  rw [List.getElem?_range hl] at h1
  cases h1
  exact ⟨h2.symm, by omega⟩
/-- a loop that may hand back a value: what holds between turns, what the value is -/
theorem forGo_find {G : EG} {b : ES} (P : Nat → Rho → Sto → Prop) (R : Nat → D → Sto → Prop) : ∀ (xs : List D) (k : Nat) (ρ : Rho) (M : Sto),
    (∀ i d ρ M, xs[i]? = some d → P (k + i) ρ M → (∃ ρ1 M1, turn G b d ρ M = some (.nx ρ1, M1) ∧ P (k + i + 1) ρ1 M1) ∨ ∃ e M1, turn G b d ρ M = some (.rt e, M1) ∧ R (k + i) e M1) → P k ρ M →
    (∃ ρ1 M1, forGo G b none xs ρ M = some (.nx ρ1, M1) ∧ P (k + xs.length) ρ1 M1) ∨ ∃ i e M1, i < xs.length ∧ forGo G b none xs ρ M = some (.rt e, M1) ∧ R (k + i) e M1
  | [], k, ρ, M, _, h0 => .inl ⟨ρ, M, rfl, h0⟩
  | d :: r, k, ρ, M, h, h0 => by
    rcases h 0 d ρ M rfl h0 with ⟨ρ1, M1, e, h1⟩ | ⟨e, M1, h1, h2⟩
    · rcases forGo_find P R r (k + 1) ρ1 M1 (fun i d ρ M hi hp => by
        have := h (i + 1) d ρ M (by simpa using hi) (by rw [show k + (i + 1) = k + 1 + i by omega]; exact hp)
        rwa [show k + (i + 1) + 1 = k + 1 + i + 1 by omega, show k + (i + 1) = k + 1 + i by omega] at this) h1 with ⟨ρ2, M2, e2, h2⟩ | ⟨i, v, M2, hi, e2, h2⟩
      · refine .inl ⟨ρ2, M2, (forGo_nx e).trans e2, ?_⟩
        rw [List.length_cons, show k + (r.length + 1) = k + 1 + r.length by omega]
        exact h2
      · refine .inr ⟨i + 1, v, M2, by simp; omega, (forGo_nx e).trans e2, ?_⟩
        rw [show k + (i + 1) = k + 1 + i by omega]
        exact h2
    · exact .inr ⟨0, e, M1, by simp, forGo_rt h1, h2⟩
theorem atI_map {α : Type} {xs : List α} {f : α → D} {i : Nat} {x : α} {k : Int} (h : xs[i]? = some x) (hk : k = (i : Int)) : atI (xs.map f) k = some (f x) := by
  subst hk
  exact atI_nat (by rw [List.getElem?_map, h]; rfl)
theorem atI_neg1 {α : Type} {xs : List α} {x : α} (h : xs.getLast? = some x) : atI xs (-1) = some x := by
  have hn : xs ≠ [] := fun e => by rw [e] at h; cases h
  have e := List.dropLast_concat_getLast hn
  have hx : xs.getLast hn = x := by
    rw [List.getLast?_eq_some_getLast hn] at h
    exact Option.some.inj h
  rw [hx] at e
  rw [← e]
  exact atI_last _ _
theorem mulOk_l {x y : Int} (h0 : -18446744073709551616 < x) (h1 : x < 18446744073709551616) : mulOk x y = true := by
  unfold mulOk
  rw [decide_eq_true (show -(2 ^ 64) < x by omega), decide_eq_true (show x < 2 ^ 64 by omega)]
  rfl
theorem mulOk_r {x y : Int} (h0 : -18446744073709551616 < y) (h1 : y < 18446744073709551616) : mulOk x y = true := by
  unfold mulOk
  rw [decide_eq_true (show -(2 ^ 64) < y by omega), decide_eq_true (show y < 2 ^ 64 by omega)]
  exact Bool.or_true _
/-! comprehensions that leave the store as it is -/
theorem lcGo_nil {G : EG} {F : ET} {E : EE} {src : Src} {ρ : Rho} {acc : List D} {M : Sto} : lcGo G F E src ρ [] acc M = some (acc, M) := rfl
theorem lcGo_map {G : EG} {E : EE} {ρ : Rho} {M : Sto} {α : Type} (en : α → D) (f : α → D) : ∀ (xs : List α) (acc : List D), (∀ x ∈ xs, ∃ ρ1, G (en x) ρ M = some (ρ1, M) ∧ E ρ1 M = some (f x, M)) → lcGo G bYes E none ρ (xs.map en) acc M = some (acc ++ xs.map f, M)
  | [], acc, _ => by simp [lcGo]
  | x :: xs, acc, h => by
    obtain ⟨ρ1, h1, h2⟩ := h x (by simp)
    have ih := lcGo_map (G := G) (E := E) (ρ := ρ) (M := M) en f xs (acc ++ [f x]) fun y hy => h y (by simp [hy])
    rw [List.map_cons]
    unfold lcGo
    rw [h1]
    simp only [Option.bind_some, bYes, if_true, h2]
    rw [if_pos chk_none, ih]
    simp
theorem lcGo_filter {G : EG} {F : ET} {E : EE} {ρ : Rho} {M : Sto} {α : Type} (en : α → D) (p : α → Bool) (f : α → D) : ∀ (xs : List α) (acc : List D), (∀ x ∈ xs, ∃ ρ1, G (en x) ρ M = some (ρ1, M) ∧ F ρ1 M = some (p x, M) ∧ (p x = true → E ρ1 M = some (f x, M))) →
    lcGo G F E none ρ (xs.map en) acc M = some (acc ++ (xs.filter p).map f, M)
  | [], acc, _ => by simp [lcGo]
  | x :: xs, acc, h => by
    obtain ⟨ρ1, h1, h2, h3⟩ := h x (by simp)
    rw [List.map_cons]
    unfold lcGo
    rw [h1]
    simp only [Option.bind_some, h2]
    cases hp : p x with
    | true =>
      have ih := lcGo_filter (G := G) (F := F) (E := E) (ρ := ρ) (M := M) en p f xs (acc ++ [f x]) fun y hy => h y (by simp [hy])
      simp only [if_true, h3 hp, Option.bind_some]
      rw [if_pos chk_none, ih, List.filter_cons, if_pos hp]
      simp
    | false =>
      have ih := lcGo_filter (G := G) (F := F) (E := E) (ρ := ρ) (M := M) en p f xs acc fun y hy => h y (by simp [hy])
      rw [if_neg Bool.false_ne_true]
      rw [if_pos chk_none, ih, List.filter_cons, if_neg (by rw [hp]; exact Bool.false_ne_true)]
/-- a def's value from its body's run -/
theorem runP_rt {n : Nat} {b : ES} {fz : Sto → D → Option D} {ds : List D} {d d' : D} {M : Sto} (h : b (ds.map some ++ List.replicate (n - ds.length) none) [] = some (.rt d, M)) (hz : fz M d = some d') : runP n b fz ds = some d' := by
  unfold runP
  rw [h]
  exact hz
theorem runP_nx {n : Nat} {b : ES} {fz : Sto → D → Option D} {ds : List D} {ρ : Rho} {M : Sto} (h : b (ds.map some ++ List.replicate (n - ds.length) none) [] = some (.nx ρ, M)) : runP n b fz ds = some .non := by
  unfold runP
  rw [h]
theorem fz1_pure {M : Sto} {d : D} (h : pureD d = true) : fz1 M d = some d := by
  unfold fz1
  split
  · simp [pureD] at h
  · rw [if_pos h]
theorem seq_nx {A C : ES} {ρ ρ1 : Rho} {M M1 : Sto} (h : A ρ M = some (.nx ρ1, M1)) : sSeq A C ρ M = C ρ1 M1 := by
  unfold sSeq
  rw [h]
  rfl
theorem seq_rt {A C : ES} {ρ : Rho} {M M1 : Sto} {d : D} (h : A ρ M = some (.rt d, M1)) : sSeq A C ρ M = some (.rt d, M1) := by
  unfold sSeq
  rw [h]
  rfl
end Y
set_option Elab.async false
set_option linter.all false
set_option maxRecDepth 100000
set_option maxHeartbeats 1000000
namespace Y
open PySem PySem.Spec PyProof.Rows L2
/-! ### data whose text is short -/
structure Sho (h w : Nat) (d : D) : Prop where
  fl : flatD d = true
  sh : (toPy d).showable = true
  ls : (toPy d).leavesShort 13 = true
  nd : (toPy d).hasDict = false
  dp : (toPy d).depth ≤ h
  wt : (toPy d).weight ≤ w
theorem Sho.ok {h w : Nat} {d : D} (s : Sho h w d) (h1 : h ≤ 50) (h2 : w ≤ 60000) : showOk d = true := by
  have e := PyData.shown_le 13 (by decide) _ s.ls
  have w := s.wt
  have dp := s.dp
  unfold showOk
  rw [s.fl, s.sh, s.nd, decide_eq_true (show (toPy d).depth ≤ 50 by omega), decide_eq_true (show (toPy d).shown.length ≤ 1000000 by omega)]
  rfl
theorem sho_int {i : Int} (h : i.natAbs < 1000000000000) : Sho 0 41 (.int i) := by
  have h0 : i.natAbs < 2 ^ 40 := by omega
  have hl : i.natAbs.log2 < 41 := by
    by_cases hz : i.natAbs = 0
    · rw [hz]; decide
    · have := (Nat.log2_lt (n := i.natAbs) (k := 40) hz).mpr h0
      omega
  refine ⟨rfl, ?_, ?_, rfl, Nat.le_refl _, ?_⟩
  · simp only [toPy, PyData.showable, decide_eq_true_eq]
    omega
  · simp only [toPy, PyData.leavesShort, decide_eq_true_eq]
    exact PyData.shown_int_le h
  · simp only [toPy, PyData.weight]
    split <;> omega
theorem sho_non : Sho 0 41 .non := ⟨rfl, rfl, rfl, rfl, Nat.le_refl _, Nat.zero_le _⟩
theorem sho_bl {b : Bool} : Sho 0 41 (.bl b) := ⟨rfl, rfl, rfl, rfl, Nat.le_refl _, Nat.zero_le _⟩
theorem Sho.up {h w h2 w2 : Nat} {d : D} (s : Sho h w d) (h1 : h ≤ h2) (hw : w ≤ w2) : Sho h2 w2 d := ⟨s.fl, s.sh, s.ls, s.nd, Nat.le_trans s.dp h1, Nat.le_trans s.wt hw⟩
theorem shoL {h w : Nat} : ∀ {ds : List D}, (∀ d ∈ ds, Sho h w d) → flatL ds = true ∧ PyData.showableAll (toPys ds) = true ∧ PyData.leavesShortAll 13 (toPys ds) = true ∧ PyData.hasDictAll (toPys ds) = false ∧ PyData.depthAll (toPys ds) ≤ h ∧ PyData.weightAll (toPys ds) ≤ ds.length * (w + 1)
  | [], _ => ⟨by simp only [flatL], by simp only [toPys, PyData.showableAll], by simp only [toPys, PyData.leavesShortAll], by simp only [toPys, PyData.hasDictAll], by simp only [toPys, PyData.depthAll]; omega, by simp only [toPys, PyData.weightAll]; omega⟩
  | d :: r, hs => by
    obtain ⟨h1, h2, h3, h4, h5, h6⟩ := shoL (ds := r) fun x hx => hs x (List.mem_cons_of_mem _ hx)
    have s := hs d (by simp)
    have dp := s.dp
    have wt := s.wt
    refine ⟨by simp only [flatL, s.fl, h1]; rfl, by simp only [toPys, PyData.showableAll, s.sh, h2]; rfl, by simp only [toPys, PyData.leavesShortAll, s.ls, h3]; rfl, by simp only [toPys, PyData.hasDictAll, s.nd, h4]; rfl, ?_, ?_⟩
    · simp only [toPys, PyData.depthAll]
      omega
    · simp only [toPys, PyData.weightAll, List.length_cons, Nat.add_mul]
      omega
theorem sho_lst {h w n : Nat} {ds : List D} (hs : ∀ d ∈ ds, Sho h w d) (hn : ds.length ≤ n) : Sho (h + 1) (n * (w + 1)) (.lst ds) := by
  obtain ⟨h1, h2, h3, h4, h5, h6⟩ := shoL hs
  have := Nat.mul_le_mul_right (w + 1) hn
  refine ⟨by simp only [flatD, h1], by simp only [toPy, PyData.showable, h2], by simp only [toPy, PyData.leavesShort, h3], by simp only [toPy, PyData.hasDict, h4], ?_, ?_⟩
  · simp only [toPy, PyData.depth]
    omega
  · simp only [toPy, PyData.weight]
    omega
theorem sho_tup {h w n : Nat} {ds : List D} (hs : ∀ d ∈ ds, Sho h w d) (hn : ds.length ≤ n) : Sho (h + 1) (n * (w + 1)) (.tup ds) := by
  obtain ⟨h1, h2, h3, h4, h5, h6⟩ := shoL hs
  have := Nat.mul_le_mul_right (w + 1) hn
  refine ⟨by simp only [flatD, h1], by simp only [toPy, PyData.showable, h2], by simp only [toPy, PyData.leavesShort, h3], by simp only [toPy, PyData.hasDict, h4], ?_, ?_⟩
  · simp only [toPy, PyData.depth]
    omega
  · simp only [toPy, PyData.weight]
    omega
end Y
set_option Elab.async false
set_option linter.all false
set_option maxRecDepth 100000
set_option maxHeartbeats 4000000
namespace Y
open PySem PySem.Spec PyProof.Rows L2
/-! ### sets of ints that a comprehension makes -/
/-- the set at a has just the members of ns -/
def SetIO (w : World) (a : Addr) (ns : List Int) : HO := .ext fun h => ∃ S n, SetR w h a S n ∧ n ≤ ns.length ∧ ∀ k, S k = true ↔ k ∈ ns
section
variable {P : Program} {w : World} {h : Heap} {H : Hp} {a : Addr} {ns : List Int}
theorem setIO_ok {S : Int → Bool} {n : Nat} (r : SetR w h a S n) (hn : n ≤ ns.length) (hm : ∀ k, S k = true ↔ k ∈ ns) : ObjOk P w H h a (SetIO w a ns) := by
  obtain ⟨o, hr⟩ := r
  obtain ⟨es, ep, t, ho, rest⟩ := hr
  exact ⟨⟨S, n, ⟨o, es, ep, t, ho, rest⟩, hn, hm⟩, ⟨o, ho⟩, fun h1 h2 p k => by
    obtain ⟨S1, n1, r1, x1, x2⟩ := p
    exact ⟨S1, n1, r1.at k, x1, x2⟩⟩
end
section
variable {X : Cx}
theorem addI_ok {pins : List (Addr × Obj)} {σ : L2.St} {H : Hp} {s : Shared} {E : Value → Shared → Prop} {D : Addr} {ns : List Int} {k : Int} {tk : Tok} {Q : Value → Shared → Prop} (I : Inv X pins σ H s) (hD : H D = some (SetIO X.w D ns)) (room : ns.length + 1 < scanBound)
    (q : ∀ s', Inv X pins σ (upd H D (SetIO X.w D (ns ++ [k]))) s' → Q .none s') : wpAny (model X.prog X.w) X.A (call (.builtin "set.add") [.ref D, .int k tk]) Q E s := by
  obtain ⟨S, n, r, hn, hm⟩ := (I.hok D _ hD).1
  refine setR_add r (by omega) fun h1 sb r1 => q _ ?_
  have ex : ∃ u, h1.get? D = some u := by
    obtain ⟨o, _, _, _, ho, _⟩ := id r1
    exact ⟨o, ho⟩
  have hn1 : (if S k = true then n else n + 1) ≤ (ns ++ [k]).length := by
    rw [List.length_append]
    split <;> simp <;> omega
  have hm1 : ∀ j, (S j || decide (j = k)) = true ↔ j ∈ ns ++ [k] := fun j => by
    rw [Bool.or_eq_true, hm j, decide_eq_true_eq, List.mem_append, List.mem_singleton]
  exact I.write (e := D) (t' := s.toks + 1) (by rw [hD]; trivial) (.inl rfl) (fun b u nb hu => (sb.2 b nb).trans hu) ex (setIO_ok r1 hn1 hm1)
end
/-- {elt for target in iter if ..}, ints: as tLc, but D is a set -/
def tScI (w : World) (wi : TI) (g : TG) (tt : TT) (te : TE) (vs : List Nat) : TE := fun σ H Q => wi σ H fun J H1 => ∀ D, H1 D = none →
  ∃ W : Nat → Nat → Hp → Prop, (∃ m, W 0 m (upd H1 D (SetIO w D []))) ∧ ∀ i m Hi, W i m Hi → (J.stop i Hi ∧ Q (.ref D) Hi) ∨
    (J.go i Hi ∧ ∃ Nx : Hp → Prop, (∀ Hn, Nx Hn → ∃ m', m' < m ∧ W (i + 1) m' Hn) ∧ ∀ x Hx, J.yld i Hi x Hx →
      g x (wipe σ vs) Hx fun σ2 Hg => wipe σ2 vs = wipe σ vs ∧ tt σ2 Hg fun b Ht => if b = true then
        te σ2 Ht fun y He => ∃ (ns : List Int) (k : Int), y = .int k ∧ He D = some (SetIO w D ns) ∧ ns.length + 1 < scanBound ∧ Nx (upd He D (SetIO w D (ns ++ [k])))
      else Nx Ht)
section
variable {X : Cx}
theorem pe_scI {elt tg iter : Expr} {ifs : List Expr} {scope : Scope} {own : List (Str × Nat)} {pos : Pos} {wi : TI} {g : TG} {tt : TT} {te : TE} (calm : X.calm = true) (nd : X.N.Nodup) (hi : PI X tg iter wi) (ok : BlkOk X.N X.env.scope scope own)
    (hg : ∀ (s0 : Shared) (H0 : Hp) (C : Addr) (c : List (Str × Addr)) (fs : List Addr), PG (X.blk s0 H0 scope (compEnvC scope c C X.env) fs) tg g)
    (ht : ∀ (s0 : Shared) (H0 : Hp) (C : Addr) (c : List (Str × Addr)) (fs : List Addr), PTs (X.blk s0 H0 scope (compEnvC scope c C X.env) fs) ifs tt)
    (he : ∀ (s0 : Shared) (H0 : Hp) (C : Addr) (c : List (Str × Addr)) (fs : List Addr), PE (X.blk s0 H0 scope (compEnvC scope c C X.env) fs) elt te) (fold : ∀ x, foldedSetIterable iter X.env x = pure x) :
    PE X (.SetComp elt [⟨tg, iter, ifs, 0⟩] scope pos) (tScI X.w wi g tt te (own.map (·.2))) := by
  constructor
  intro pins s σ H Q I h
  rw [PpSet.eval_SetComp]
  have free : ∀ y ∈ scope.names, y.2 = .free → ∃ c, X.env.cells.lookup y.1 = some c := by
    intro y hy e
    cases ok.free y hy e with
    | inl k => exact I.ok.has _ (.inl k)
    | inr k => exact I.ok.has _ (.inr k)
  apply wpAny_comprehension_free rfl fold (closure_ok free) ok.kind fun y hy e => by rw [ok.uniq y hy, e]
  refine thn (hi.run pins s σ H _ I h) fun _ _ a1 => thn a1 fun _ sI aI => ?_
  obtain ⟨it, fs, tn, J, HI, rfl, II, T, stI, fI, q⟩ := aI
  apply PpSet.newSet_ok
  apply newEnv_comp
  -- the set lies behind everything
  obtain ⟨D, hD⟩ : ∃ D, sI.heap.objs.size = D := ⟨_, rfl⟩
  rw [hD]
  obtain ⟨W, ⟨m0, w0⟩, turns⟩ := q D (II.hok.fresh (Nat.le_of_eq hD))
  let sD : Shared := { sI with heap := sI.heap.push { cls := .type "set", dict := none, data := .set #[] 0 (.fresh 0 0 (!X.w.params.followText "set-order")) } }
  let HD : Hp := upd HI D (SetIO X.w D [])
  have old : ∀ b o, sI.heap.get? b = some o → sD.heap.get? b = some o := fun b o e => Heap.get?_push_of_some _ e
  have fresh : ObjOk X.prog X.w HI sD.heap D (SetIO X.w D []) := by
    have r := setR_fresh (h := sI.heap) X.w
    rw [hD] at r
    exact setIO_ok r (Nat.le_refl 0) fun k => by simp
  have ID : Inv X pins σ HD sD := II.laid (t' := sI.toks) old (Nat.le_of_eq hD) fresh
  have below : ∀ b ∈ fs, b < D := by
    intro b hb
    obtain ⟨o, e, _⟩ := T.obj _ _ stI b hb
    rw [← hD]
    exact Heap.lt_size e
  have fD : ∀ b ∈ fs, FpOk X pins HD b ∧ b < sD.heap.objs.size := by
    intro b hb
    have lt := below b hb
    constructor
    · refine ⟨?_, (fI b hb).2⟩
      show upd HI D _ b = none
      rw [upd_ne (Nat.ne_of_lt lt)]
      exact (fI b hb).1
    · show b < (sI.heap.push _).objs.size
      rw [Heap.size_push, hD]
      exact Nat.lt_succ_of_lt lt
  have noneD : ∀ b ∈ fs, HD b = none := fun b hb => (fD b hb).1.1
  have stD : tn 0 sD.heap := T.keep _ _ _ stI fun b _ o e => old b o e
  have IB := block_start ID ok nd fD
  let cells := cellsFrom (sD.heap.objs.size + 1) scope.names (cloFrom X.env.cells scope.names [])
  let env := compEnvC scope cells sD.heap.objs.size X.env
  let sB : Shared := { sD with heap := pushCells (sD.heap.push { cls := .type "dict", data := .dict #[] }) scope.names }
  have pg := hg sD HD sD.heap.objs.size cells fs
  have pt := ht sD HD sD.heap.objs.size cells fs
  have pe := he sD HD sD.heap.objs.size cells fs
  have stB : tn 0 sB.heap := T.keep _ _ _ stD fun b _ o e => pushCells_keeps _ _ _ _ (Heap.get?_push_of_some _ e)
  have fit : ∀ {σ' : L2.St} {H' : Hp} {s' : Shared}, Inv (X.blk sD HD scope env fs) [] σ' H' s' → (∀ b ∈ fs, H' b = none) → ∀ b ∈ fs, FpOk (X.blk sD HD scope env fs) [] H' b := by
    intro σ' H' s' I' hn b hb
    exact ⟨hn b hb, (I'.ok.exf b hb).1, I'.ok.exfs b hb, .inl hb, fun x c e => (I'.ok.exf b hb).2 x c e, fun p hp => absurd (show p ∈ ([] : List (Addr × Obj)) ++ [] from hp) (by simp)⟩
  let Post := compPost (model X.prog X.w) X.A X.xe none (EP X pins σ Q) (.ref D) sD.heap.objs.size
  let St : Nat → Shared → Prop := fun n s' => ∃ i H', Inv (X.blk sD HD scope env fs) [] (wipe σ (own.map (·.2))) H' s' ∧ tn i s'.heap ∧ (∀ b ∈ fs, H' b = none) ∧ W i n H'
  have start : St m0 sB := ⟨0, HD, IB, stB, noneD, w0⟩
  have loop : codeAny (model X.prog X.w) X.A (.compLoop (.SetComp elt [⟨tg, iter, ifs, 0⟩] scope pos) 0 (.ref it) (.ref D) env) Post sB := by
    refine PpSet.compLoopS_any St (fun n s1 hs1 => ?_) m0 start
    obtain ⟨i, H1, I1, st1, n1, w1⟩ := hs1
    cases turns i n H1 w1 with
    | inl z =>
      obtain ⟨stop, qq⟩ := z
      refine thnF (T.done (X.blk sD HD scope env fs) rfl rfl rfl calm i [] s1 _ H1 (fun _ _ => False) I1 (fit I1 n1) st1 stop) fun r s2 a2 => ?_
      obtain ⟨rfl, I2⟩ := a2
      have back : Inv X pins σ H1 s2 := ID.call' (ch := fs) I2.os I2.base I2.hok I2.bare fun b hb => ⟨(fD b hb).1.2.2.2.1, (fD b hb).1.2.1, (fD b hb).1.2.2.2.2.1, (fD b hb).1.2.2.2.2.2⟩
      have gone : H1 sD.heap.objs.size = none := I2.free
      obtain ⟨m, hn, _⟩ := I2.loc
      have hn : s2.heap.Ns sD.heap.objs.size m := hn
      obtain ⟨f0, f1, f2, f3, f4, f5⟩ := ID.fpOk (Nat.le_refl _) gone
      exact ⟨m, hn, fun h'' sb => ⟨.ref D, H1, back.turned (t' := s2.toks) (fun b o hb e => (sb.2 b hb).trans e) f0 f1 f3 f4 f5, rfl, qq⟩⟩
    | inr z =>
      obtain ⟨go, Nx, hNx, step⟩ := z
      refine thnF (T.item (X.blk sD HD scope env fs) rfl rfl rfl calm i [] s1 _ H1 (fun _ _ => False) I1 (fit I1 n1) st1 go) fun r s2 a2 => ?_
      obtain ⟨u, rfl, a2⟩ := a2
      refine thnF a2 fun _ s3 a3 => ?_
      obtain ⟨x, H3, I3, r3, y3, st3, n3⟩ := a3
      have I3p := I3.pinned (fit I3 n3) (T.obj _ _ st3)
      have over : ∀ {s' : Shared} {H' : Hp} {σ' : L2.St}, wipe σ' (own.map (·.2)) = wipe σ (own.map (·.2)) → Inv (X.blk sD HD scope env fs) ([] ++ pinsAt fs s3.heap) σ' H' s' → Nx H' → ∃ m, m < n ∧ St m s' := by
        intro s' H' σ' hw I' nx
        obtain ⟨m', lt, w'⟩ := hNx H' nx
        have pinned : ∀ b ∈ fs, ∀ o, s3.heap.get? b = some o → s'.heap.get? b = some o ∧ H' b = none := by
          intro b hb o e
          have z := I'.pin (b, o) (List.mem_append_right _ (List.mem_append_right _ (mem_pinsAt hb e)))
          exact ⟨z.1, z.2.1⟩
        have len : (wipe σ (own.map (·.2))).length = σ'.length := by rw [← hw, wipe_length]
        refine ⟨m', lt, i + 1, H', (I'.unpinned (pins := [])).weak len (fun j v e => ?_), T.keep _ _ _ st3 fun b hb o e => (pinned b hb o e).1, fun b hb => ?_, w'⟩
        · rw [← hw] at e
          exact (wipe_some e).1
        · obtain ⟨o, e, _⟩ := T.obj _ _ st3 b hb
          exact (pinned b hb o e).2
      refine thnF (pg.run _ s3 _ H3 x u _ I3p r3 (step x H3 y3)) fun _ s4 a4 => ?_
      obtain ⟨σ4, H4, I4, hw4, q4⟩ := a4
      refine thnF (pt.run _ s4 σ4 H4 _ I4 q4) fun b s5 a5 => ?_
      obtain ⟨H5, I5, q5⟩ := a5
      by_cases hb : b = true
      · subst hb
        rw [if_pos rfl] at q5
        rw [if_pos rfl]
        refine thnF (pe.run _ s5 σ4 H5 _ I5 q5) fun v s6 a6 => ?_
        obtain ⟨y, H6, I6, r6, ns, k, rfl, hD6, hz, nx⟩ := a6
        obtain ⟨tk, rfl⟩ : ∃ tk, v = Value.int k tk := r6
        exact addI_ok (X := X.blk sD HD scope env fs) I6 hD6 hz fun s7 I7 => over hw4 I7 nx
      · rw [if_neg hb] at q5
        rw [if_neg hb]
        exact over hw4 I5 q5
  exact PpSet.codeAny_compStart_set loop (T.self X.A 0 _ _ _ stB loop)
end
/-! ### sorted({..}) -/
def insU (x : Int) : List Int → List Int
  | [] => [x]
  | y :: r => if x < y then x :: y :: r else if x = y then y :: r else y :: insU x r
def setI : List Int → List Int
  | [] => []
  | x :: r => insU x (setI r)
theorem insU_mem {x k : Int} : ∀ {l : List Int}, k ∈ insU x l ↔ k = x ∨ k ∈ l
  | [] => by simp [insU]
  | y :: r => by
    unfold insU
    split
    · simp
    · split
      · rename_i h
        subst h
        simp
      · rw [List.mem_cons, insU_mem, List.mem_cons]
        constructor
        · rintro (h | h | h)
          · exact .inr (.inl h)
          · exact .inl h
          · exact .inr (.inr h)
        · rintro (h | h | h)
          · exact .inr (.inl h)
          · exact .inl h
          · exact .inr (.inr h)
theorem insU_lt {x : Int} : ∀ {l : List Int}, l.Pairwise (· < ·) → (insU x l).Pairwise (· < ·)
  | [], _ => by simp [insU]
  | y :: r, h => by
    obtain ⟨h1, h2⟩ := List.pairwise_cons.mp h
    unfold insU
    split
    · rename_i g
      refine List.pairwise_cons.mpr ⟨fun z hz => ?_, h⟩
      rcases List.mem_cons.mp hz with rfl | hz
      · exact g
      · have := h1 z hz
        omega
    · split
      · exact h
      · refine List.pairwise_cons.mpr ⟨fun z hz => ?_, insU_lt h2⟩
        rcases insU_mem.mp hz with rfl | hz
        · omega
        · exact h1 z hz
theorem setI_mem {k : Int} : ∀ {l : List Int}, k ∈ setI l ↔ k ∈ l
  | [] => Iff.rfl
  | x :: r => by
    unfold setI
    rw [insU_mem, setI_mem, List.mem_cons]
theorem setI_lt : ∀ (l : List Int), (setI l).Pairwise (· < ·)
  | [] => .nil
  | x :: r => insU_lt (setI_lt r)
theorem lt_uniq : ∀ {a b : List Int}, a.Pairwise (· < ·) → b.Pairwise (· < ·) → (∀ k, k ∈ a ↔ k ∈ b) → a = b
  | [], [], _, _, _ => rfl
  | [], y :: r, _, _, h => by
    have := (h y).mpr (by simp)
    simp at this
  | x :: r, [], _, _, h => by
    have := (h x).mp (by simp)
    simp at this
  | x :: r, y :: s, ha, hb, h => by
    obtain ⟨a1, a2⟩ := List.pairwise_cons.mp ha
    obtain ⟨b1, b2⟩ := List.pairwise_cons.mp hb
    have e : x = y := by
      rcases List.mem_cons.mp ((h x).mp (by simp)) with e | hx
      · exact e
      · rcases List.mem_cons.mp ((h y).mpr (by simp)) with e | hy
        · exact e.symm
        · have := a1 y hy
          have := b1 x hx
          omega
    subst e
    rw [lt_uniq a2 b2 fun k => ?_]
    constructor
    · intro hk
      rcases List.mem_cons.mp ((h k).mp (List.mem_cons_of_mem _ hk)) with e | z
      · have := a1 k hk
        omega
      · exact z
    · intro hk
      rcases List.mem_cons.mp ((h k).mpr (List.mem_cons_of_mem _ hk)) with e | z
      · have := b1 k hk
        omega
      · exact z
/-- sorted of a set of ints -/
def rSrtSet (w : World) : List V → Hp → VK → Prop := fun vs H Q => ∃ (a : Addr) (ns : List Int), vs = [V.ref a] ∧ H a = some (SetIO w a ns) ∧ ns.length < 64 ∧
  ∀ p : Addr, H p = none → Q (.ref p) (upd H p (.lst ((setI ns).map V.int)))
theorem cr_srtSet {X : Cx} (calm : X.calm = true) : CallR X (.builtin "sorted") (rSrtSet X.w) := by
  intro pins s σ H vs us Q I r h
  obtain ⟨a, ns, rfl, ha, h64, q⟩ := h
  rw [Vals.ref1 r]
  obtain ⟨S, n, hr, hn, hm⟩ := (I.hok a _ ha).1
  refine sorted_set hr (I.ok.hd calm) (by omega) fun s' p out c ns' kk hg ho hz hp hi hlt hmem hlen => ?_
  have e : ns' = setI ns := lt_uniq hlt (setI_lt ns) fun k => by rw [hmem k, hm k, setI_mem]
  subst e
  have hl : ((setI ns).map V.int).length ≤ sizeLine := by
    rw [List.length_map, sizeLine_eq]
    omega
  have new : ObjOk X.prog X.w (upd H p (.lst ((setI ns).map V.int))) s'.heap p (.lst ((setI ns).map V.int)) := ⟨hl, out.toList, c, vals_of_ints hi, hp⟩
  exact ⟨.ref p, upd H p (.lst ((setI ns).map V.int)), I.call' (ch := []) ho (Un.laid kk hz (I.hok.fresh hz)) (I.hok.laid kk hz new) (by rw [hg]; exact I.bare) (fun _ z => nomatch z), rfl, q p (I.hok.fresh hz)⟩
theorem lcGo_pre {G : EG} {F : ET} {E : EE} {src : Src} {ρ : Rho} : ∀ {xs acc ds : List D} {M M' : Sto}, lcGo G F E src ρ xs acc M = some (ds, M') → ∃ t, ds = acc ++ t
  | [], acc, ds, M, M', h => by
    cases h
    exact ⟨[], by simp⟩
  | x :: xs, acc, ds, M, M', h => by
    obtain ⟨p, _, h⟩ := bind_eq h
    obtain ⟨q, _, h⟩ := bind_eq h
    split at h
    · obtain ⟨y, _, h⟩ := bind_eq h
      split at h
      · obtain ⟨t, ht⟩ := lcGo_pre h
        exact ⟨y.1 :: t, by rw [ht, List.append_assoc]; rfl⟩
      · cases h
    · split at h
      · exact lcGo_pre h
      · cases h
theorem intsOf_app : ∀ {a b : List D} {ns : List Int}, intsOf (a ++ b) = some ns → ∃ x y, intsOf a = some x ∧ intsOf b = some y ∧ ns = x ++ y
  | [], b, ns, h => ⟨[], ns, rfl, h, rfl⟩
  | d :: a, b, ns, h => by
    cases d with
    | int i =>
      obtain ⟨m, h1, rfl⟩ := map_eq h
      obtain ⟨x, y, e1, e2, rfl⟩ := intsOf_app h1
      exact ⟨i :: x, y, by simp [intsOf, e1], e2, rfl⟩
    | _ => cases h
theorem intsOf_len : ∀ {a : List D} {ns : List Int}, intsOf a = some ns → a.length = ns.length
  | [], ns, h => by cases h; rfl
  | d :: a, ns, h => by
    cases d with
    | int i =>
      obtain ⟨m, h1, rfl⟩ := map_eq h
      simp [intsOf_len h1]
    | _ => cases h
def lSrt (A : EA) : EA := fun ρ M => (A ρ M).bind fun p => (intsOf p.1).bind fun ns => if ns.length < 64 then some ((setI ns).map .int, p.2) else none
section
variable {X : Cx} {K : PySem.W.Frag} {cl : Nat → Addr}
theorem EvL.srtSet {w : World} {wi : TI} {g : TG} {tt : TT} {te : TE} {I : EI} {G : EG} {F : ET} {E : EE} {js vs : List Nat} (hi : EvI K cl wi I) (hg : EvG K cl js g G) (ht : EvT K cl tt F) (he : EvE K cl te E) (hj : ∀ j ∈ js, j ∈ vs) :
    EvL K cl (tCB (rSrtSet w) (tCons (tScI w wi g tt te vs) tNil)) (lSrt (lLc I G F E vs)) := fun T B H σ ρ M ds M' Q s r h k => by
  obtain ⟨p0, hp0, h⟩ := bind_eq h
  obtain ⟨ns, hns, h⟩ := bind_eq h
  split at h
  case isFalse => cases h
  rename_i h64
  cases h
  obtain ⟨ps, hps, h1⟩ := bind_eq hp0
  obtain ⟨⟨src, xs⟩, M1⟩ := ps
  split at h1
  case isFalse => cases h1
  rename_i hz
  have hz : xs.length ≤ 1000000 := hz
  refine hi T B H σ ρ M _ _ _ _ s r hps fun J T1 B1 H1 tr1 s1 c1 it => ?_
  intro Dl hD
  have rw' := (r.tr tr1).wipe vs
  let P : Nat → Hp → Prop := fun i H' => ∃ T' B' M2 acc ms, Tr T1 B1 H1 T' B' H' ∧ StOk K cl T' B' H' M2 ∧ Chk src M2 ∧ Dl ∉ T' ∧ B' Dl = none ∧ H' Dl = some (SetIO w Dl ms) ∧ intsOf acc = some ms ∧ lcGo G F E src (wipeD ρ vs) (xs.drop i) acc M2 = some p0
  refine ⟨fun i m H' => m + i = xs.length ∧ i ≤ xs.length ∧ P i H', ⟨xs.length, by omega, Nat.zero_le _, T1, B1, M1, [], [], Tr.refl.junk hD, s1.junk (s1.notin hD) (s1.ex.free hD), c1, s1.notin hD, s1.ex.free hD, upd_same, rfl, h1⟩, ?_⟩
  rintro i m H' ⟨hm, hi', T', B', M2, acc, ms, tr2, s2, c2, d1, d2, d3, ra, go⟩
  obtain ⟨it1, it2⟩ := it i T' B' H' M2 tr2 s2 c2
  by_cases hlt : i < xs.length
  · obtain ⟨jg, jy⟩ := it1 hlt
    refine .inr ⟨jg, P (i + 1), fun H' z => ⟨m - 1, by omega, by omega, hlt, z⟩, fun x H2 y => ?_⟩
    obtain ⟨B2, tr3, s3, rx⟩ := jy x H2 y
    have hx : xs[i]? = some xs[i] := List.getElem?_eq_getElem hlt
    rw [List.drop_eq_getElem_cons hlt] at go
    obtain ⟨p, hp, go⟩ := bind_eq go
    obtain ⟨q, hq, go⟩ := bind_eq go
    obtain ⟨f1, f2, f3⟩ := tr3.fr Dl _ d3 d1
    refine hg T' B2 H2 _ (wipeD ρ vs) M2 x xs[i] _ _ _ s3 (rw'.tr (tr2.trans tr3)) (rx _ hx) hp fun T4 B4 H4 σ4 tr4 s4 sl4 w4 => ⟨(w4 vs hj).trans wipe_wipe, ?_⟩
    obtain ⟨g1, g2, g3⟩ := tr4.fr Dl _ f1 f2
    refine ht T4 B4 H4 σ4 _ _ _ _ _ s4 sl4 hq fun T5 B5 H5 tr5 s5 => ?_
    obtain ⟨k1, k2, k3⟩ := tr5.fr Dl _ g1 g2
    have n5 : B5 Dl = none := k3 (g3 (f3 d2))
    split at go
    · rename_i hb
      rw [if_pos hb]
      obtain ⟨y, hy, go⟩ := bind_eq go
      refine he T5 B5 H5 σ4 _ _ _ _ _ s5 (sl4.tr tr5) hy fun v T6 B6 H6 tr6 s6 r6 => ?_
      obtain ⟨l1, l2, l3⟩ := tr6.fr Dl _ k1 k2
      have tr16 := (((tr2.trans tr3).trans tr4).trans tr5).trans tr6
      split at go
      · rename_i hc
        obtain ⟨t, ht⟩ := lcGo_pre go
        have hall := hns
        rw [ht] at hall
        obtain ⟨n1, n2, e1, e2, e3⟩ := intsOf_app hall
        obtain ⟨n3, n4, e4, e5, e6⟩ := intsOf_app e1
        rw [ra] at e4
        cases e4
        have hyi : ∃ j : Int, y.1 = .int j ∧ n4 = [j] := by
          cases hd : y.1 with
          | int j =>
            rw [hd] at e5
            cases e5
            exact ⟨j, rfl, rfl⟩
          | _ => rw [hd] at e5; cases e5
        obtain ⟨j, hj1, hj2⟩ := hyi
        subst hj2
        rw [hj1] at r6
        cases r6
        have hlen : ms.length + 1 ≤ ns.length := by
          rw [e3, e6]
          simp
        have room : ms.length + 1 < scanBound := by
          show ms.length + 1 < 4096
          omega
        exact ⟨ms, j, rfl, l1, room, T6, B6, y.2, acc ++ [y.1], ms ++ [j], tr16.junk hD, s6.junk l2 (l3 n5), hc, l2, l3 n5, upd_same, by rw [e1, e6], go⟩
      · cases go
    · rename_i hb
      rw [if_neg hb]
      split at go
      · rename_i hc
        exact ⟨T5, B5, q.2, acc, ms, ((tr2.trans tr3).trans tr4).trans tr5, s5, hc, k2, n5, k1, ra, go⟩
      · cases go
  · have hl0 : xs.length ≤ i := by omega
    refine .inl ⟨it2 hl0, ?_⟩
    rw [List.drop_of_length_le hl0] at go
    cases go
    rw [ra] at hns
    cases hns
    exact ⟨Dl, _, rfl, d3, h64, fun p hp => k p _ T' B' H' hp (tr1.trans tr2) s2 (reps_ofInts _) _ (fun a ha => upd_ne ha) upd_same⟩
theorem sdl_srtSet (N : List Str) (sc : Scope) (own : List (Str × Nat)) {elt tg iter : Expr} {ifs : List Expr} {scope : Scope} {pos pos2 p : Pos} {wi : TI} {g : TG} {tt : TT} {te : TE} {I : EI} {G : EG} {F : ET} {E : EE} {js : List Nat} (hgl : Gl X "sorted") (hmg : X.mg "sorted" = none) (hN : X.N.Nodup) (hi : SdI K cl X tg iter wi I) (ok : blkC N sc scope own = true)
    (hg : ∀ (s : Shared) (H : Hp) (C : Addr) (c : List (Str × Addr)) (fp : List Addr), SdG K cl (X.blk s H scope (compEnvC scope c C X.env) fp) tg js g G) (ht : ∀ (s : Shared) (H : Hp) (C : Addr) (c : List (Str × Addr)) (fp : List Addr), SdTs (X.blk s H scope (compEnvC scope c C X.env) fp) K cl ifs tt F)
    (he : ∀ (s : Shared) (H : Hp) (C : Addr) (c : List (Str × Addr)) (fp : List Addr), SdE (X.blk s H scope (compEnvC scope c C X.env) fp) K cl elt te E) (hj : ∀ j ∈ js, j ∈ own.map (·.2)) (hc : X.calm = true := by rfl) (h0 : X.N = N := by rfl) (h1 : X.env.scope = sc := by rfl) (hs : ∀ x, foldedSetIterable iter X.env x = pure x := by intro _; rfl)
    (hsp : starEach [Expr.SetComp elt [⟨tg, iter, ifs, 0⟩] scope pos] X.env = [(false, eval (.SetComp elt [⟨tg, iter, ifs, 0⟩] scope pos) X.env)] := by rfl) :
    SdL X K cl (.Call (.Name "sorted" p) [.SetComp elt [⟨tg, iter, ifs, 0⟩] scope pos] [] pos2) (tCB (rSrtSet X.w) (tCons (tScI X.w wi g tt te (own.map (·.2))) tNil)) (lSrt (lLc I G F E (own.map (·.2)))) :=
  ⟨hi.k, pe_callB (cr_srtSet hc) hgl hmg rfl (pa_cons (pe_scI hc hN hi.pe (by rw [h0, h1]; exact blkOk_by ok) (fun s H C c fp => (hg s H C c fp).pe) (fun s H C c fp => (ht s H C c fp).pe) (fun s H C c fp => (he s H C c fp).pe) hs) pa_nil hsp) (by decide) (by decide) hsp rfl,
    .srtSet hi.ev (hg X.s_0 X.H_0 0 [] []).ev (ht X.s_0 X.H_0 0 [] []).ev (he X.s_0 X.H_0 0 [] []).ev hj⟩
end
end Y
set_option Elab.async false
set_option linter.all false
set_option maxRecDepth 100000
set_option maxHeartbeats 4000000
namespace Y
open PySem PySem.Spec PyProof.Rows L2
/-! ### starred items, list(..), isinstance, is of truth values -/
def seqOf (M : Sto) (a : D) : Option (List D) := match rd M a with
  | .lst xs => some xs
  | .rls xs => some xs
  | .tup xs => some xs
  | _ => none
def aStar (A : EE) (C : EA) : EA := fun ρ M => (A ρ M).bind fun p => (seqOf p.2 p.1).bind fun xs => (C ρ p.2).map fun q => (xs ++ q.1, q.2)
def lList (A : EE) : EA := fun ρ M => (A ρ M).bind fun p => (seqOf p.2 p.1).map fun xs => (xs, p.2)
def tyD (M : Sto) (a : D) : Option String := match rd M a with
  | .non => some "NoneType"
  | .bl _ => some "bool"
  | .int _ => some "int"
  | .str _ => some "str"
  | .lst _ => some "list"
  | _ => none
def eIsi (c : String) (A : EE) : EE := fun ρ M => (A ρ M).bind fun p => (tyD p.2 p.1).bind fun t => (kitB t c).map fun b => (.bl b, p.2)
def oIsB (_ : Sto) (a b : D) : Option D := match a, b with
  | .bl x, .bl y => some (.bl (decide (x = y)))
  | _, _ => none
def oNotB (_ : Sto) (a b : D) : Option D := match a, b with
  | .bl x, .bl y => some (.bl (!decide (x = y)))
  | _, _ => none
section
variable {X : Cx} {K : PySem.W.Frag} {cl : Nat → Addr} {T : List Addr} {B H : Hp} {M : Sto} {x : V} {a : D} {xs : List D} {e : Expr} {es : List Expr} {t : TE} {ta : TA} {A : EE} {Aa : EA} {p pos p1 p2 : Pos}
theorem seq_at (s : StOk K cl T B H M) (r : Rep K cl T B x a) (h : seqOf M a = some xs) : ∃ q vs, x = .ref q ∧ (SqT K H q vs ∨ SqL K H q vs) ∧ Reps K cl T B vs xs := by
  unfold seqOf at h
  cases e : rd M a with
  | lst ys =>
    rw [e] at h; cases h
    obtain ⟨q, vs, h1, h2, h3⟩ := rd_sq s r (by rw [e]; rfl)
    exact ⟨q, vs, h1, .inr h2, h3⟩
  | rls ys =>
    rw [e] at h; cases h
    obtain ⟨q, vs, h1, h2, h3⟩ := rd_sq s r (by rw [e]; rfl)
    exact ⟨q, vs, h1, .inr h2, h3⟩
  | tup ys =>
    rw [e] at h; cases h
    obtain ⟨q, vs, h1, h2, h3⟩ := rd_tup s r e
    exact ⟨q, vs, h1, .inl h2, h3⟩
  | _ => rw [e] at h; cases h
theorem Reps.app {vs ws : List V} {ds es : List D} (h : Reps K cl T B vs ds) (h' : Reps K cl T B ws es) : Reps K cl T B (vs ++ ws) (ds ++ es) := h.append h'
theorem sa_star (ha : SdE X K cl e t A) (hr : SdA X K cl es ta Aa) (hs : starEach (.Starred e p :: es) X.env = (true, eval e X.env) :: starEach es X.env := by rfl) : SdA X K cl (.Starred e p :: es) (StX.tStar K t ta) (aStar A Aa) :=
  ⟨ha.k, ha.k ▸ StX.pa_star ha.pe hr.pe hs, fun T B H σ ρ M ds M' Q s rr h k => by
    obtain ⟨p, hp, h⟩ := bind_eq h
    obtain ⟨xs, hx, h⟩ := bind_eq h
    obtain ⟨q, hq, h⟩ := map_eq h
    cases h
    refine ha.ev T B H σ ρ M p.1 p.2 _ s rr hp fun x T1 B1 H1 tr1 s1 r1 => ?_
    obtain ⟨l, vs, e1, e2, e3⟩ := seq_at s1 r1 hx
    refine ⟨l, vs, e1, e2, ?_⟩
    exact hr.ev T1 B1 H1 σ ρ p.2 q.1 q.2 _ s1 (rr.tr tr1) hq fun ys T2 B2 H2 tr2 s2 r2 => k _ _ _ _ (tr1.trans tr2) s2 ((e3.tr tr2).append r2)⟩
theorem sdl_list (ha : SdE X K cl e t A) (hg : Gl X "list") (hm : X.mg "list" = none) (hs : starEach [e] X.env = [(false, eval e X.env)] := by rfl) :
    SdL X K cl (.Call (.Name "list" p) [e] [] pos) (tCB (fun xs H Q => ∃ p ys, xs = [.ref p] ∧ (SqL K H p ys ∨ SqT K H p ys) ∧ ∀ l, H l = none → Q (.ref l) (upd H l (.lst ys))) (tCons t tNil)) (lList A) :=
  ⟨ha.k, ha.k ▸ pe_callTy call_list_of hg hm rfl (pa_cons ha.pe pa_nil hs) (by decide) (by decide) hs rfl, fun T B H σ ρ M ds M' Q s rr h k => by
    obtain ⟨p, hp, h⟩ := bind_eq h
    obtain ⟨xs, hx, h⟩ := map_eq h
    cases h
    refine ha.ev T B H σ ρ M p.1 p.2 _ s rr hp fun x T1 B1 H1 tr1 s1 r1 => ?_
    obtain ⟨l, vs, e1, e2, e3⟩ := seq_at s1 r1 hx
    exact ⟨l, vs, by rw [e1], e2.symm, fun l' hl' => k l' vs T1 B1 H1 hl' tr1 s1 e3 _ (fun a ha => upd_ne ha) upd_same⟩⟩
theorem sd_isi {c : String} {y : Str} (ha : SdE X K cl e t A) (hg : Gl X "isinstance") (hm : X.mg "isinstance" = none) (hgy : Gl X y) (hmy : X.mg y = none) (hvy : bootBuiltins y = some (.type c)) (hny : y ≠ "__name__" := by decide) (hdy : (y == ("__debug__" : Str)) = false := by decide)
    (hs : starEach [e, .Name y p2] X.env = [(false, eval e X.env), (false, eval (.Name y p2) X.env)] := by rfl) :
    SdE X K cl (.Call (.Name "isinstance" p1) [e, .Name y p2] [] pos) (tCB (rIsi K) (tCons t (tCons (tC (.ty c)) tNil))) (eIsi c A) :=
  ⟨ha.k, ha.k ▸ pe_callB call_isi hg hm rfl (pa_cons ha.pe (pa_cons (pe_bltn hgy hmy hvy rfl hny hdy) pa_nil rfl) hs) (by decide) (by decide) hs rfl, fun T B H σ ρ M d M' Q s rr h k => by
    obtain ⟨p, hp, h⟩ := bind_eq h
    obtain ⟨n, hn, h⟩ := bind_eq h
    obtain ⟨b, hb, h⟩ := map_eq h
    cases h
    refine ha.ev T B H σ ρ M p.1 p.2 _ s rr hp fun x T1 B1 H1 tr1 s1 r1 => ?_
    refine ⟨x, .ty c, .type n, .type c, b, rfl, .ty c, .base ?_, kit_ty hb, k _ T1 B1 H1 tr1 s1 (.bl b)⟩
    unfold tyD at hn
    cases e : rd p.2 p.1 with
    | non =>
      rw [e] at hn; cases hn
      cases rd_rep r1 e (fun _ => nofun) with
      | non => exact .non
    | bl y =>
      rw [e] at hn; cases hn
      cases rd_rep r1 e (fun _ => nofun) with
      | bl y => exact .bl y
    | int i =>
      rw [e] at hn; cases hn
      cases rd_int r1 e
      exact .int i
    | str z =>
      rw [e] at hn; cases hn
      cases rd_str r1 e
      exact .str z
    | lst ys =>
      rw [e] at hn; cases hn
      obtain ⟨q, vs, rfl, h1, _⟩ := rd_lst s1 r1 e
      exact .lst h1
    | _ => rw [e] at hn; cases hn⟩
theorem ok_isB : OpOk K cl rIsB oIsB := fun T B H M x y a b d Q s ra rb h k => by
  unfold oIsB at h
  split at h
  · cases h
    cases ra; cases rb
    exact ⟨_, _, rfl, rfl, kon0 s k (.bl _)⟩
  · cases h
theorem ok_notB : OpOk K cl rNotB oNotB := fun T B H M x y a b d Q s ra rb h k => by
  unfold oNotB at h
  split at h
  · cases h
    cases ra; cases rb
    exact ⟨_, _, rfl, rfl, kon0 s k (.bl _)⟩
  · cases h
end
end Y
set_option Elab.async false
set_option linter.all false
set_option maxRecDepth 100000
set_option maxHeartbeats 1000000
namespace Y
open PySem PySem.Spec PyProof.Rows L2
theorem noD {α : Type} {a b : α} (h : a = b) : a = b := h
section
variable {A C E O : EE} {Aa : EA} {F S T : ES} {b c : ET} {G : EG} {Gs : EGs} {I : EI} {L U : EO} {ρ ρ1 : Rho} {M M1 : Sto} {d a e : D} {ds xs ys : List D} {i j n k : Nat} {x y : Int} {t : Bool} {f g : Sto → D → D → Option D} {u : D → Option D} {h : Sto → List D → Option D} {p : List D → Option D} {s z : Str} {fs : List (Str × D)}
def res (o : Option D) (M : Sto) : Option (D × Sto) := o.map fun d => (d, M)
theorem r_res : res (some d) M = some (d, M) := noD rfl
def var1 (o : Option (Option D)) (M : Sto) : Option (D × Sto) := match o with | some (some d) => some (d, M) | _ => none
theorem r_var : eVar i ρ M = var1 ρ[i]? M := noD rfl
theorem r_var1 : var1 (some (some d)) M = some (d, M) := noD rfl
theorem r_c : eC d ρ M = some (d, M) := noD rfl
def bin2 (f : Sto → D → D → Option D) (a : D) (o : Option (D × Sto)) : Option (D × Sto) := o.bind fun q => res (f q.2 a q.1) q.2
def bin1 (f : Sto → D → D → Option D) (C : EE) (ρ : Rho) (o : Option (D × Sto)) : Option (D × Sto) := o.bind fun p => bin2 f p.1 (C ρ p.2)
theorem r_bin : eBin f A C ρ M = bin1 f C ρ (A ρ M) := noD rfl
theorem r_bin1 : bin1 f C ρ (some (a, M)) = bin2 f a (C ρ M) := noD rfl
theorem r_bin2 : bin2 f a (some (e, M)) = res (f M a e) M := noD rfl
def un1 (u : D → Option D) (o : Option (D × Sto)) : Option (D × Sto) := o.bind fun p => res (u p.1) p.2
theorem r_un : eUn u A ρ M = un1 u (A ρ M) := noD rfl
theorem r_un1 : un1 u (some (a, M)) = res (u a) M := noD rfl
def cons2 (a : D) (o : Option (List D × Sto)) : Option (List D × Sto) := o.map fun q => (a :: q.1, q.2)
def cons1 (Aa : EA) (ρ : Rho) (o : Option (D × Sto)) : Option (List D × Sto) := o.bind fun p => cons2 p.1 (Aa ρ p.2)
theorem r_nil : aNil ρ M = some ([], M) := noD rfl
theorem r_cons : aCons A Aa ρ M = cons1 Aa ρ (A ρ M) := noD rfl
theorem r_cons1 : cons1 Aa ρ (some (a, M)) = cons2 a (Aa ρ M) := noD rfl
theorem r_cons2 : cons2 a (some (ds, M)) = some (a :: ds, M) := noD rfl
def ca1 (h : Sto → List D → Option D) (o : Option (List D × Sto)) : Option (D × Sto) := o.bind fun p => res (h p.2 p.1) p.2
theorem r_ca : eCa h Aa ρ M = ca1 h (Aa ρ M) := noD rfl
theorem r_ca1 : ca1 h (some (ds, M)) = res (h M ds) M := noD rfl
def call1 (p : List D → Option D) (o : Option (List D × Sto)) : Option (D × Sto) := o.bind fun q => if pureL q.1 = true then res (p q.1) q.2 else none
theorem r_call : eCall p Aa ρ M = call1 p (Aa ρ M) := noD rfl
theorem r_call1 : call1 p (some (ds, M)) = (if pureL ds = true then res (p ds) M else none) := noD rfl
def fld1 (k : Nat) (s : Str) (o : Option (D × Sto)) : Option (D × Sto) := o.bind fun p => match p.1 with
  | .obj c' fs => if c' = k then res (fs.lookup s) p.2 else none
  | .loc i => match p.2[i]? with
    | some (.obj c' fs) => if c' = k then res (fs.lookup s) p.2 else none
    | _ => none
  | _ => none
theorem r_fld : eFld k s A ρ M = fld1 k s (A ρ M) := noD rfl
theorem r_fld1 : fld1 k s (some (.obj k fs, M)) = res (fs.lookup s) M := by show (if k = k then _ else _) = _; exact if_pos rfl
def meth2 (p : List D → Option D) (d : D) (o : Option (List D × Sto)) : Option (D × Sto) := o.bind fun q => if pureL q.1 = true then res (p (d :: q.1)) q.2 else none
def meth1 (k : Nat) (s : Str) (p : List D → Option D) (Aa : EA) (ρ : Rho) (o : Option (D × Sto)) : Option (D × Sto) := o.bind fun q => match q.1 with
  | .obj c' fs => if c' = k ∧ fs.lookup s = none ∧ pureF fs = true then meth2 p (.obj c' fs) (Aa ρ q.2) else none
  | _ => none
theorem r_meth : eMeth k s p A Aa ρ M = meth1 k s p Aa ρ (A ρ M) := noD rfl
theorem r_meth1 : meth1 k s p Aa ρ (some (.obj k fs, M)) = (if fs.lookup s = none ∧ pureF fs = true then meth2 p (.obj k fs) (Aa ρ M) else none) := by show (if k = k ∧ _ then _ else _) = _; simp only [true_and]
theorem r_meth2 : meth2 p d (some (ds, M)) = (if pureL ds = true then res (p (d :: ds)) M else none) := noD rfl
def frz1 (o : Option (List D × Sto)) : Option (D × Sto) := o.map fun p => (.lst p.1, p.2)
theorem r_frz : eFrz Aa ρ M = frz1 (Aa ρ M) := noD rfl
theorem r_frz1 : frz1 (some (ds, M)) = some (.lst ds, M) := noD rfl
def mlt1 (o : Option (List D × Sto)) : Option (D × Sto) := o.map fun p => (.loc p.2.length, p.2 ++ [.lst p.1])
theorem r_mlt : eMlt Aa ρ M = mlt1 (Aa ρ M) := noD rfl
theorem r_mlt1 : mlt1 (some (ds, M)) = some (.loc M.length, M ++ [.lst ds]) := noD rfl
def lst1 (o : Option (List D × Sto)) : Option (List D × Sto) := o.bind fun p => if p.1.length ≤ 1000000 then some p else none
theorem r_lst : lLst Aa ρ M = lst1 (Aa ρ M) := noD rfl
theorem r_lst1 : lst1 (some (ds, M)) = (if ds.length ≤ 1000000 then some (ds, M) else none) := noD rfl
def tup1 (o : Option (List D × Sto)) : Option (D × Sto) := o.bind fun p => if p.1.length ≤ 1000000 then some (.tup p.1, p.2) else none
theorem r_tup : eTup Aa ρ M = tup1 (Aa ρ M) := noD rfl
theorem r_tup1 : tup1 (some (ds, M)) = (if ds.length ≤ 1000000 then some (.tup ds, M) else none) := noD rfl
def some1 (o : Option (D × Sto)) : Option (Option Int × Sto) := o.bind fun p => match p.1 with
  | .int i => some (some i, p.2)
  | _ => none
theorem r_onone : oNone ρ M = some (none, M) := noD rfl
theorem r_osome : oSome A ρ M = some1 (A ρ M) := noD rfl
theorem r_osome1 : some1 (some (.int x, M)) = some (some x, M) := noD rfl
def sl3 (d : D) (l : Option Int) (o : Option (Option Int × Sto)) : Option (List D × Sto) := o.bind fun u => match isSq (rd u.2 d) with
  | some xs => some (cutD xs l u.1, u.2)
  | none => none
def sl2 (U : EO) (ρ : Rho) (d : D) (o : Option (Option Int × Sto)) : Option (List D × Sto) := o.bind fun l => sl3 d l.1 (U ρ l.2)
def sl1 (L U : EO) (ρ : Rho) (o : Option (D × Sto)) : Option (List D × Sto) := o.bind fun p => sl2 U ρ p.1 (L ρ p.2)
theorem r_sl : lSl A L U ρ M = sl1 L U ρ (A ρ M) := noD rfl
theorem r_sl1 : sl1 L U ρ (some (d, M)) = sl2 U ρ d (L ρ M) := noD rfl
variable {l1 l2 : Option Int}
theorem r_sl2 : sl2 U ρ d (some (l1, M)) = sl3 d l1 (U ρ M) := noD rfl
theorem r_sl3 : sl3 (.lst xs) l1 (some (l2, M)) = some (cutD xs l1 l2, M) := noD rfl
theorem r_sl3r : sl3 (.rls xs) l1 (some (l2, M)) = some (cutD xs l1 l2, M) := noD rfl
def test1 (o : Option (D × Sto)) : Option (Bool × Sto) := o.bind fun p => match p.1 with
  | .bl b => some (b, p.2)
  | _ => none
theorem r_test : bTest A ρ M = test1 (A ρ M) := noD rfl
theorem r_test1 : test1 (some (.bl t, M)) = some (t, M) := noD rfl
def tru1 (o : Option (D × Sto)) : Option (Bool × Sto) := o.bind fun p => (truth p.2 p.1).map fun b => (b, p.2)
theorem r_tru : bTru A ρ M = tru1 (A ρ M) := noD rfl
theorem r_tru_bl : tru1 (some (.bl t, M)) = some (t, M) := noD rfl
theorem r_tru_int : tru1 (some (.int x, M)) = some (x != 0, M) := noD rfl
theorem r_tru_lst : tru1 (some (.lst xs, M)) = some (!xs.isEmpty, M) := noD rfl
theorem r_tru_non : tru1 (some (.non, M)) = some (false, M) := noD rfl
theorem r_yes : bYes ρ M = some (true, M) := noD rfl
def and1 (c : ET) (ρ : Rho) (o : Option (Bool × Sto)) : Option (Bool × Sto) := o.bind fun p => if p.1 = true then c ρ p.2 else some (false, p.2)
theorem r_and : bAnd b c ρ M = and1 c ρ (b ρ M) := noD rfl
theorem r_and_t : and1 c ρ (some (true, M)) = c ρ M := noD rfl
theorem r_and_f : and1 c ρ (some (false, M)) = some (false, M) := noD rfl
def or1 (c : ET) (ρ : Rho) (o : Option (Bool × Sto)) : Option (Bool × Sto) := o.bind fun p => if p.1 = true then some (true, p.2) else c ρ p.2
theorem r_or : bOr b c ρ M = or1 c ρ (b ρ M) := noD rfl
theorem r_or_t : or1 c ρ (some (true, M)) = some (true, M) := noD rfl
theorem r_or_f : or1 c ρ (some (false, M)) = c ρ M := noD rfl
def not1 (o : Option (Bool × Sto)) : Option (Bool × Sto) := o.map fun p => (!p.1, p.2)
theorem r_not : bNot b ρ M = not1 (b ρ M) := noD rfl
theorem r_not1 : not1 (some (t, M)) = some (!t, M) := noD rfl
def eand1 (C : EE) (ρ : Rho) (o : Option (D × Sto)) : Option (D × Sto) := o.bind fun p => match p.1 with
  | .bl true => C ρ p.2
  | .bl false => some (.bl false, p.2)
  | _ => none
theorem r_eand : eAnd A C ρ M = eand1 C ρ (A ρ M) := noD rfl
theorem r_eand_t : eand1 C ρ (some (.bl true, M)) = C ρ M := noD rfl
theorem r_eand_f : eand1 C ρ (some (.bl false, M)) = some (.bl false, M) := noD rfl
def eor1 (C : EE) (ρ : Rho) (o : Option (D × Sto)) : Option (D × Sto) := o.bind fun p => match p.1 with
  | .bl true => some (.bl true, p.2)
  | .bl false => C ρ p.2
  | _ => none
theorem r_eor : eOr A C ρ M = eor1 C ρ (A ρ M) := noD rfl
theorem r_eor_t : eor1 C ρ (some (.bl true, M)) = some (.bl true, M) := noD rfl
theorem r_eor_f : eor1 C ρ (some (.bl false, M)) = C ρ M := noD rfl
def enot1 (o : Option (D × Sto)) : Option (D × Sto) := o.bind fun p => match p.1 with
  | .bl b => some (.bl (!b), p.2)
  | _ => none
theorem r_enot : eNot A ρ M = enot1 (A ρ M) := noD rfl
theorem r_enot1 : enot1 (some (.bl t, M)) = some (.bl (!t), M) := noD rfl
def eif1 (A C : EE) (ρ : Rho) (o : Option (Bool × Sto)) : Option (D × Sto) := o.bind fun p => if p.1 = true then A ρ p.2 else C ρ p.2
theorem r_eif : eIf b A C ρ M = eif1 A C ρ (b ρ M) := noD rfl
theorem r_eif_t : eif1 A C ρ (some (true, M)) = A ρ M := noD rfl
theorem r_eif_f : eif1 A C ρ (some (false, M)) = C ρ M := noD rfl
def ch4 (g : Sto → D → D → Option D) (e : D) (o : Option (D × Sto)) : Option (D × Sto) := o.bind fun r => res (g r.2 e r.1) r.2
def ch3 (g : Sto → D → D → Option D) (E : EE) (ρ : Rho) (e : D) (M : Sto) (o : Option D) : Option (D × Sto) := o.bind fun d => match d with
  | .bl true => ch4 g e (E ρ M)
  | .bl false => some (.bl false, M)
  | _ => none
def ch2 (f g : Sto → D → D → Option D) (E : EE) (ρ : Rho) (a : D) (o : Option (D × Sto)) : Option (D × Sto) := o.bind fun q => ch3 g E ρ q.1 q.2 (f q.2 a q.1)
def ch1 (f g : Sto → D → D → Option D) (C E : EE) (ρ : Rho) (o : Option (D × Sto)) : Option (D × Sto) := o.bind fun p => ch2 f g E ρ p.1 (C ρ p.2)
theorem r_ch : eChain f g A C E ρ M = ch1 f g C E ρ (A ρ M) := noD rfl
theorem r_ch1 : ch1 f g C E ρ (some (a, M)) = ch2 f g E ρ a (C ρ M) := noD rfl
theorem r_ch2 : ch2 f g E ρ a (some (e, M)) = ch3 g E ρ e M (f M a e) := noD rfl
theorem r_ch3_t : ch3 g E ρ e M (some (.bl true)) = ch4 g e (E ρ M) := noD rfl
theorem r_ch3_f : ch3 g E ρ e M (some (.bl false)) = some (.bl false, M) := noD rfl
theorem r_ch4 : ch4 g e (some (d, M)) = res (g M e d) M := noD rfl
theorem r_gN : gN i d ρ M = some (ρ.set i (some d), M) := noD rfl
def gs1 (Gs : EGs) (ds : List D) (o : Option (Rho × Sto)) : Option (Rho × Sto) := o.bind fun p => Gs ds p.1 p.2
theorem r_gnil : gsNil [] ρ M = some (ρ, M) := noD rfl
theorem r_gcons : gsCons G Gs (d :: ds) ρ M = gs1 Gs ds (G d ρ M) := noD rfl
theorem r_gs1 : gs1 Gs ds (some (ρ, M)) = Gs ds ρ M := noD rfl
theorem r_gT : gT n Gs (.tup ds) ρ M = (if ds.length = n then Gs ds ρ M else none) := noD rfl
def gfld1 (k : Nat) (s : Str) (d : D) (ρ : Rho) (o : Option (D × Sto)) : Option (Rho × Sto) := o.bind fun (q : D × Sto) => match q.1 with
  | .loc i => match q.2[i]? with
    | some (MO.obj c' fs) => if c' = k ∧ fs.length < 1000 then some (ρ, q.2.set i (MO.obj k (putD s d fs))) else none
    | _ => none
  | _ => none
theorem r_gfld : gFld k s A d ρ M = gfld1 k s d ρ (A ρ M) := noD rfl
def gfld2 (k : Nat) (s : Str) (d : D) (ρ : Rho) (M : Sto) (i : Nat) (o : Option MO) : Option (Rho × Sto) := match o with
    | some (MO.obj c' fs) => if c' = k ∧ fs.length < 1000 then some (ρ, M.set i (MO.obj k (putD s d fs))) else none
    | _ => none
theorem r_gfld1 : gfld1 k s d ρ (some (.loc i, M)) = gfld2 k s d ρ M i M[i]? := noD rfl
theorem r_gfld2 : gfld2 k s d ρ M i (some (MO.obj k fs)) = (if fs.length < 1000 then some (ρ, M.set i (MO.obj k (putD s d fs))) else none) := by show (if k = k ∧ _ then _ else _) = _; simp only [true_and]
def gsub3 (d : D) (ρ : Rho) (M : Sto) (i : Nat) (k : Int) (o : Option MO) : Option (Rho × Sto) := match o with
    | some (.lst xs) => (ixN xs.length k).map fun m => (ρ, M.set i (.lst (xs.set m d)))
    | _ => none
def gsub2 (d : D) (ρ : Rho) (a : D) (o : Option (D × Sto)) : Option (Rho × Sto) := o.bind fun q => match a, q.1 with
  | .loc j, .int k => gsub3 d ρ q.2 j k q.2[j]?
  | _, _ => none
def gsub1 (C : EE) (d : D) (ρ : Rho) (o : Option (D × Sto)) : Option (Rho × Sto) := o.bind fun p => gsub2 d ρ p.1 (C ρ p.2)
theorem r_gsub : gSubL A C d ρ M = gsub1 C d ρ (A ρ M) := noD rfl
theorem r_gsub1 : gsub1 C d ρ (some (a, M)) = gsub2 d ρ a (C ρ M) := noD rfl
theorem r_gsub2 : gsub2 d ρ (.loc j) (some (.int x, M)) = gsub3 d ρ M j x M[j]? := noD rfl
theorem r_gsub3 : gsub3 d ρ M j x (some (.lst xs)) = (ixN xs.length x).map fun m => (ρ, M.set j (.lst (xs.set m d))) := noD rfl
def seq1 (S : ES) (o : Option (Fl × Sto)) : Option (Fl × Sto) := o.bind fun p => match p.1 with
  | .nx ρ1 => S ρ1 p.2
  | f => some (f, p.2)
theorem r_seq : sSeq F S ρ M = seq1 S (F ρ M) := noD rfl
theorem r_seq_nx : seq1 S (some (.nx ρ, M)) = S ρ M := noD rfl
theorem r_seq_rt : seq1 S (some (.rt d, M)) = some (.rt d, M) := noD rfl
theorem r_seq_bk : seq1 S (some (.bk ρ, M)) = some (.bk ρ, M) := noD rfl
theorem r_seq_ct : seq1 S (some (.ct ρ, M)) = some (.ct ρ, M) := noD rfl
theorem r_next : sNext ρ M = some (.nx ρ, M) := noD rfl
def asg2 (o : Option (Rho × Sto)) : Option (Fl × Sto) := o.map fun q => (.nx q.1, q.2)
def asg1 (G : EG) (ρ : Rho) (o : Option (D × Sto)) : Option (Fl × Sto) := o.bind fun p => asg2 (G p.1 ρ p.2)
theorem r_asg : sAsg A G ρ M = asg1 G ρ (A ρ M) := noD rfl
theorem r_asg1 : asg1 G ρ (some (d, M)) = asg2 (G d ρ M) := noD rfl
theorem r_asg2 : asg2 (some (ρ, M)) = some (.nx ρ, M) := noD rfl
def drop1 (ρ : Rho) (o : Option (D × Sto)) : Option (Fl × Sto) := o.map fun p => (.nx ρ, p.2)
theorem r_drop : sDrop A ρ M = drop1 ρ (A ρ M) := noD rfl
theorem r_drop1 : drop1 ρ (some (d, M)) = some (.nx ρ, M) := noD rfl
def ret1 (o : Option (D × Sto)) : Option (Fl × Sto) := o.map fun p => (.rt p.1, p.2)
theorem r_ret : sRet A ρ M = ret1 (A ρ M) := noD rfl
theorem r_ret1 : ret1 (some (d, M)) = some (.rt d, M) := noD rfl
theorem r_retN : sRetN ρ M = some (.rt .non, M) := noD rfl
def if1 (F S : ES) (ρ : Rho) (o : Option (Bool × Sto)) : Option (Fl × Sto) := o.bind fun p => if p.1 = true then F ρ p.2 else S ρ p.2
theorem r_if : sIf c F S ρ M = if1 F S ρ (c ρ M) := noD rfl
theorem r_if_t : if1 F S ρ (some (true, M)) = F ρ M := noD rfl
theorem r_if_f : if1 F S ρ (some (false, M)) = S ρ M := noD rfl
theorem r_brk : sBrk ρ M = some (.bk ρ, M) := noD rfl
theorem r_cnt : sCnt ρ M = some (.ct ρ, M) := noD rfl
def sfrz2 (i : Nat) (ρ : Rho) (M : Sto) (j : Nat) (o : Option MO) : Option (Fl × Sto) := match o with
    | some (.lst xs) => if pureL xs = true then some (.nx (ρ.set i (some (.lst xs))), M.set j .dead) else none
    | _ => none
def sfrz1 (i : Nat) (ρ : Rho) (M : Sto) (o : Option (Option D)) : Option (Fl × Sto) := match o with
  | some (some (.loc j)) => sfrz2 i ρ M j M[j]?
  | _ => some (.nx ρ, M)
theorem r_sfrz : sFrz i ρ M = sfrz1 i ρ M ρ[i]? := noD rfl
theorem r_sfrz_loc : sfrz1 i ρ M (some (some (.loc j))) = sfrz2 i ρ M j M[j]? := noD rfl
theorem r_sfrz_lst : sfrz1 i ρ M (some (some (.lst xs))) = some (.nx ρ, M) := noD rfl
theorem r_sfrz2 : sfrz2 i ρ M j (some (.lst xs)) = (if pureL xs = true then some (.nx (ρ.set i (some (.lst xs))), M.set j .dead) else none) := noD rfl
def sfld2 (k : Nat) (s : Str) (d : D) (ρ : Rho) (M : Sto) (i : Nat) (o : Option MO) : Option (Fl × Sto) := match o with
    | some (MO.obj c' fs) => if c' = k ∧ fs.length < 1000 then some (.nx ρ, M.set i (MO.obj k (putD s d fs))) else none
    | _ => none
def sfld1 (k : Nat) (s : Str) (d : D) (ρ : Rho) (o : Option (D × Sto)) : Option (Fl × Sto) := o.bind fun q => match q.1 with
  | .loc i => sfld2 k s d ρ q.2 i q.2[i]?
  | _ => none
def sfld0 (k : Nat) (s : Str) (O : EE) (ρ : Rho) (o : Option (D × Sto)) : Option (Fl × Sto) := o.bind fun p => sfld1 k s p.1 ρ (O ρ p.2)
theorem r_sfld : sFldD k s O A ρ M = sfld0 k s O ρ (A ρ M) := noD rfl
theorem r_sfld0 : sfld0 k s O ρ (some (d, M)) = sfld1 k s d ρ (O ρ M) := noD rfl
theorem r_sfld1 : sfld1 k s d ρ (some (.loc i, M)) = sfld2 k s d ρ M i M[i]? := noD rfl
theorem r_sfld2 : sfld2 k s d ρ M i (some (MO.obj k fs)) = (if fs.length < 1000 then some (.nx ρ, M.set i (MO.obj k (putD s d fs))) else none) := by show (if k = k ∧ _ then _ else _) = _; simp only [true_and]
def app3 (M : Sto) (i : Nat) (d : D) (o o2 : Option MO) : Option (D × Sto) := match o, o2 with
    | some (.lst _), some (.lst xs) => if xs.length < 1000000 then some (.non, M.set i (.lst (xs ++ [d]))) else none
    | _, _ => none
def app2 (a : D) (M : Sto) (o : Option (D × Sto)) : Option (D × Sto) := o.bind fun q => match a with
  | .loc i => app3 q.2 i q.1 M[i]? q.2[i]?
  | _ => none
def app1 (E : EE) (ρ : Rho) (o : Option (D × Sto)) : Option (D × Sto) := o.bind fun p => app2 p.1 p.2 (E ρ p.2)
theorem r_app : eApp O E ρ M = app1 E ρ (O ρ M) := noD rfl
theorem r_app1 : app1 E ρ (some (a, M)) = app2 a M (E ρ M) := noD rfl
theorem r_app2 : app2 (.loc i) M (some (d, M1)) = app3 M1 i d M[i]? M1[i]? := noD rfl
theorem r_app3 : app3 M i d (some (.lst xs)) (some (.lst ys)) = (if ys.length < 1000000 then some (.non, M.set i (.lst (ys ++ [d]))) else none) := noD rfl
noncomputable def for1 (G : EG) (F : ES) (ρ : Rho) (o : Option ((Src × List D) × Sto)) : Option (Fl × Sto) := o.bind fun p => forGo G F p.1.1 p.1.2 ρ p.2
variable {src : Src}
theorem r_for : sFor I G F ρ M = for1 G F ρ (I ρ M) := noD rfl
theorem r_for1 : for1 G F ρ (some ((src, ds), M)) = forGo G F src ds ρ M := noD rfl
def turn1 (F : ES) (o : Option (Rho × Sto)) : Option (Fl × Sto) := o.bind fun p => F p.1 p.2
theorem r_turn : turn G F d ρ M = turn1 F (G d ρ M) := noD rfl
theorem r_turn1 : turn1 F (some (ρ, M)) = F ρ M := noD rfl
noncomputable def lc1 (G : EG) (c : ET) (E : EE) (vs : List Nat) (ρ : Rho) (o : Option ((Src × List D) × Sto)) : Option (List D × Sto) := o.bind fun p => if p.1.2.length ≤ 1000000 then lcGo G c E p.1.1 (wipeD ρ vs) p.1.2 [] p.2 else none
variable {vs : List Nat}
theorem r_lc : lLc I G c E vs ρ M = lc1 G c E vs ρ (I ρ M) := noD rfl
theorem r_lc1 : lc1 G c E vs ρ (some ((src, ds), M)) = (if ds.length ≤ 1000000 then lcGo G c E src (wipeD ρ vs) ds [] M else none) := noD rfl
theorem r_wipe0 : wipeD ρ [] = ρ := noD rfl
theorem r_wipe1 : wipeD ρ (n :: vs) = (wipeD ρ vs).set n none := noD rfl
def isq2 (j : Nat) (M : Sto) (o : Option MO) : Option ((Src × List D) × Sto) := match o with
    | some (.lst xs) => some ((some (j, xs), xs), M)
    | _ => none
def isq1 (o : Option (D × Sto)) : Option ((Src × List D) × Sto) := o.bind fun p => match p.1 with
  | .loc j => isq2 j p.2 p.2[j]?
  | .lst xs => some ((none, xs), p.2)
  | .rls xs => some ((none, xs), p.2)
  | .tup xs => some ((none, xs), p.2)
  | _ => none
theorem r_isq : iSq A ρ M = isq1 (A ρ M) := noD rfl
theorem r_isq_lst : isq1 (some (.lst xs, M)) = some ((none, xs), M) := noD rfl
theorem r_isq_rls : isq1 (some (.rls xs, M)) = some ((none, xs), M) := noD rfl
theorem r_isq_tup : isq1 (some (.tup xs, M)) = some ((none, xs), M) := noD rfl
theorem r_isq_loc : isq1 (some (.loc j, M)) = isq2 j M M[j]? := noD rfl
theorem r_isq2 : isq2 j M (some (.lst xs)) = some ((some (j, xs), xs), M) := noD rfl
def ir1 (o : Option (List D × Sto)) : Option ((Src × List D) × Sto) := o.bind fun p => match p.1 with
  | [.int j] => if -(2 ^ 60) ≤ j ∧ j < 2 ^ 60 then some ((none, rngD 0 j), p.2) else none
  | _ => none
theorem r_ir1 : iR1 Aa ρ M = ir1 (Aa ρ M) := noD rfl
theorem r_ir11 : ir1 (some ([.int x], M)) = (if -(2 ^ 60) ≤ x ∧ x < 2 ^ 60 then some ((none, rngD 0 x), M) else none) := noD rfl
def ir2 (o : Option (List D × Sto)) : Option ((Src × List D) × Sto) := o.bind fun p => match p.1 with
  | [.int i, .int j] => if -(2 ^ 60) ≤ i ∧ i < 2 ^ 60 ∧ -(2 ^ 60) ≤ j ∧ j < 2 ^ 60 then some ((none, rngD i j), p.2) else none
  | _ => none
theorem r_ir2 : iR2 Aa ρ M = ir2 (Aa ρ M) := noD rfl
theorem r_ir21 : ir2 (some ([.int x, .int y], M)) = (if -(2 ^ 60) ≤ x ∧ x < 2 ^ 60 ∧ -(2 ^ 60) ≤ y ∧ y < 2 ^ 60 then some ((none, rngD x y), M) else none) := noD rfl
def ien2 (M : Sto) (o : Option (Src × List D)) : Option ((Src × List D) × Sto) := o.map fun q => ((q.1, enumD q.2), M)
def ien1 (o : Option (List D × Sto)) : Option ((Src × List D) × Sto) := o.bind fun p => match p.1 with
  | [a] => ien2 p.2 (srcOf p.2 a)
  | _ => none
theorem r_ien : iEn Aa ρ M = ien1 (Aa ρ M) := noD rfl
theorem r_ien1 : ien1 (some ([a], M)) = ien2 M (srcOf M a) := noD rfl
theorem r_src_lst : srcOf M (.lst xs) = some (none, xs) := noD rfl
theorem r_src_rls : srcOf M (.rls xs) = some (none, xs) := noD rfl
theorem r_ien2 : ien2 M (some (src, xs)) = some ((src, enumD xs), M) := noD rfl
def izp1 (o : Option (List D × Sto)) : Option ((Src × List D) × Sto) := o.bind fun p => match p.1 with
  | [a, b] => match isSq a, isSq b with
    | some xs, some ys => some ((none, zipD xs ys), p.2)
    | _, _ => none
  | _ => none
theorem r_izp : iZp Aa ρ M = izp1 (Aa ρ M) := noD rfl
theorem r_izp1 : izp1 (some ([.lst xs, .lst ys], M)) = some ((none, zipD xs ys), M) := noD rfl
theorem r_add : oAdd M (.int x) (.int y) = some (.int (x + y)) := noD rfl
theorem r_adds : oAdd M (.str s) (.str z) = (if s.length + z.length ≤ 1000000 then some (.str (s ++ z)) else none) := noD rfl
theorem r_addl : oAdd M (.lst xs) (.lst ys) = (if xs.length + ys.length ≤ 1000000 then some (.lst (xs ++ ys)) else none) := noD rfl
theorem r_sub : oSub M (.int x) (.int y) = some (.int (x - y)) := noD rfl
theorem r_mul : oMul M (.int x) (.int y) = (if mulOk x y = true then some (.int (x * y)) else none) := noD rfl
theorem r_fdiv : oFdiv M (.int x) (.int y) = (if y ≠ 0 ∧ y.natAbs < 1073741824 then some (.int (x.fdiv y)) else none) := noD rfl
theorem r_mod : oMod M (.int x) (.int y) = (if y ≠ 0 then some (.int (x.fmod y)) else none) := noD rfl
theorem r_pow : oPow M (.int x) (.int y) = (if 0 ≤ y ∧ y ≤ 1000000 ∧ x.natAbs < 2 ^ 64 then some (.int (x ^ y.toNat)) else none) := noD rfl
theorem r_neg : oNeg (.int x) = some (.int (-x)) := noD rfl
theorem r_lt : oLt M (.int x) (.int y) = some (.bl (decide (x < y))) := noD rfl
theorem r_le : oLe M (.int x) (.int y) = some (.bl (decide (x ≤ y))) := noD rfl
theorem r_gt : oGt M (.int x) (.int y) = some (.bl (decide (y < x))) := noD rfl
theorem r_ge : oGe M (.int x) (.int y) = some (.bl (decide (y ≤ x))) := noD rfl
theorem r_eq : oEq M (.int x) (.int y) = some (.bl (decide (x = y))) := noD rfl
theorem r_ne : oNe M (.int x) (.int y) = some (.bl (!decide (x = y))) := noD rfl
theorem r_eqs : oEq M (.str s) (.str z) = some (.bl (decide (s = z))) := noD rfl
theorem r_nes : oNe M (.str s) (.str z) = some (.bl (!decide (s = z))) := noD rfl
theorem r_isN_non : oIsN M .non .non = some (.bl true) := noD rfl
theorem r_isN_int : oIsN M (.int x) .non = some (.bl false) := noD rfl
theorem r_isN_tup : oIsN M (.tup xs) .non = some (.bl false) := noD rfl
theorem r_notN_non : oNotN M .non .non = some (.bl false) := noD rfl
theorem r_notN_int : oNotN M (.int x) .non = some (.bl true) := noD rfl
theorem r_notN_tup : oNotN M (.tup xs) .non = some (.bl true) := noD rfl
theorem r_ix_lst : oIx M (.lst xs) (.int x) = atI xs x := noD rfl
theorem r_ix_rls : oIx M (.rls xs) (.int x) = atI xs x := noD rfl
theorem r_ix_tup : oIx M (.tup xs) (.int x) = atI xs x := noD rfl
theorem r_len_lst : cLen M [.lst xs] = some (.int (xs.length : Int)) := noD rfl
theorem r_len_rls : cLen M [.rls xs] = some (.int (xs.length : Int)) := noD rfl
theorem r_len_tup : cLen M [.tup xs] = some (.int (xs.length : Int)) := noD rfl
theorem r_abs : cAbs M [.int x] = some (.int (if x < 0 then -x else x)) := noD rfl
theorem r_int : cInt M [.int x] = some (.int x) := noD rfl
theorem r_intb : cInt M [.bl t] = some (.int (if t then 1 else 0)) := noD rfl
theorem r_max2 : cMax2 M [.int x, .int y] = some (.int (if y > x then y else x)) := noD rfl
theorem r_min2 : cMin2 M [.int x, .int y] = some (.int (if y < x then y else x)) := noD rfl
theorem r_all : cAll M [.lst xs] = (bitsOf xs).map fun bs => D.bl (bs.all id) := noD rfl
theorem r_any : cAny M [.lst xs] = (bitsOf xs).map fun bs => D.bl (bs.any id) := noD rfl
theorem r_sum : cSum M [.lst xs] = (intsOf xs).map fun ns => D.int ns.sum := noD rfl
theorem r_srt : cSrt M [.lst xs] = (intsOf xs).map fun ns => D.lst ((ns.mergeSort (fun x y => decide (x ≤ y))).map .int) := noD rfl
theorem r_repr : cRepr M [a] = (if showOk a = true then some (.str (shownD a)) else none) := noD rfl
theorem r_pD_int : pureD (.int x) = true := by simp only [pureD]
theorem r_pD_non : pureD .non = true := by simp only [pureD]
theorem r_pD_bl : pureD (.bl t) = true := by simp only [pureD]
theorem r_pD_str : pureD (.str s) = true := by simp only [pureD]
theorem r_pD_lst : pureD (.lst xs) = pureL xs := by simp only [pureD]
theorem r_pD_rls : pureD (.rls xs) = pureL xs := by simp only [pureD]
theorem r_pD_tup : pureD (.tup xs) = pureL xs := by simp only [pureD]
theorem r_pD_obj : pureD (.obj k fs) = pureF fs := by simp only [pureD]
theorem r_pL_nil : pureL [] = true := by simp only [pureL]
theorem r_pL_cons : pureL (d :: ds) = (pureD d && pureL ds) := by simp only [pureL]
theorem r_pF_nil : pureF [] = true := by simp only [pureF]
theorem r_pF_cons : pureF ((s, d) :: fs) = (pureD d && pureF fs) := by simp only [pureF]
noncomputable def go1 (G : EG) (F : ES) (ds : List D) (o : Option (Fl × Sto)) : Option (Fl × Sto) := o.bind fun q => match q.1 with
    | .nx ρ1 => forGo G F none ds ρ1 q.2
    | .ct ρ1 => forGo G F none ds ρ1 q.2
    | .bk ρ1 => some (.nx ρ1, q.2)
    | .rt d => some (.rt d, q.2)
theorem r_go_nil : forGo G F src [] ρ M = some (.nx ρ, M) := noD rfl
theorem r_go_cons : forGo G F none (d :: ds) ρ M = go1 G F ds (turn1 F (G d ρ M)) := by
  rw [forGo_cons]
  show (turn G F d ρ M).bind _ = (turn G F d ρ M).bind _
  cases turn G F d ρ M with
  | none => rfl
  | some q =>
    obtain ⟨fl, M2⟩ := q
    cases fl with
    | nx ρ1 => exact if_pos chk_none
    | ct ρ1 => exact if_pos chk_none
    | bk ρ1 => rfl
    | rt d => rfl
theorem r_go1_nx : go1 G F ds (some (.nx ρ, M)) = forGo G F none ds ρ M := noD rfl
theorem r_go1_ct : go1 G F ds (some (.ct ρ, M)) = forGo G F none ds ρ M := noD rfl
theorem r_go1_bk : go1 G F ds (some (.bk ρ, M)) = some (.nx ρ, M) := noD rfl
theorem r_go1_rt : go1 G F ds (some (.rt d, M)) = some (.rt d, M) := noD rfl
theorem r_at0 : atI (d :: ds) 0 = some d := atI_nat (j := 0) rfl
theorem r_at1 : atI (d :: e :: ds) 1 = some e := atI_nat (j := 1) rfl
theorem r_at2 : atI (d :: e :: a :: ds) 2 = some a := atI_nat (j := 2) rfl
theorem r_lcm : cLcm M [.int x, .int y] = (if x.natAbs < 2 ^ 64 ∧ y.natAbs < 2 ^ 64 then some (.int ((Nat.lcm x.natAbs y.natAbs : Nat) : Int)) else none) := noD rfl
variable {ns : List Int}
def min1 (o : Option (List Int)) : Option D := o.bind fun ns => (minOf ns).map D.int
def max1 (o : Option (List Int)) : Option D := o.bind fun ns => (maxOf ns).map D.int
theorem r_min : cMin M [.lst xs] = min1 (intsOf xs) := noD rfl
theorem r_min1 : min1 (some ns) = (minOf ns).map D.int := noD rfl
theorem r_max : cMax M [.lst xs] = max1 (intsOf xs) := noD rfl
theorem r_max1 : max1 (some ns) = (maxOf ns).map D.int := noD rfl
theorem r_seq_lst : seqOf M (.lst xs) = some xs := noD rfl
theorem r_seq_rls : seqOf M (.rls xs) = some xs := noD rfl
theorem r_seq_tup : seqOf M (.tup xs) = some xs := noD rfl
def star3 (xs : List D) (o : Option (List D × Sto)) : Option (List D × Sto) := o.map fun q => (xs ++ q.1, q.2)
def star2 (Aa : EA) (ρ : Rho) (M : Sto) (o : Option (List D)) : Option (List D × Sto) := o.bind fun xs => star3 xs (Aa ρ M)
def star1 (Aa : EA) (ρ : Rho) (o : Option (D × Sto)) : Option (List D × Sto) := o.bind fun p => star2 Aa ρ p.2 (seqOf p.2 p.1)
theorem r_star : aStar A Aa ρ M = star1 Aa ρ (A ρ M) := noD rfl
theorem r_star1 : star1 Aa ρ (some (a, M)) = star2 Aa ρ M (seqOf M a) := noD rfl
theorem r_star2 : star2 Aa ρ M (some xs) = star3 xs (Aa ρ M) := noD rfl
theorem r_star3 : star3 xs (some (ds, M)) = some (xs ++ ds, M) := noD rfl
def srt2 (M : Sto) (o : Option (List Int)) : Option (List D × Sto) := o.bind fun ns => if ns.length < 64 then some ((setI ns).map .int, M) else none
def srt1 (o : Option (List D × Sto)) : Option (List D × Sto) := o.bind fun p => srt2 p.2 (intsOf p.1)
theorem r_srtS : lSrt Aa ρ M = srt1 (Aa ρ M) := noD rfl
theorem r_srtS1 : srt1 (some (ds, M)) = srt2 M (intsOf ds) := noD rfl
theorem r_srtS2 : srt2 M (some ns) = (if ns.length < 64 then some ((setI ns).map .int, M) else none) := noD rfl
def list2 (M : Sto) (o : Option (List D)) : Option (List D × Sto) := o.map fun xs => (xs, M)
def list1 (o : Option (D × Sto)) : Option (List D × Sto) := o.bind fun p => list2 p.2 (seqOf p.2 p.1)
theorem r_list : lList A ρ M = list1 (A ρ M) := noD rfl
theorem r_list1 : list1 (some (a, M)) = list2 M (seqOf M a) := noD rfl
theorem r_list2 : list2 M (some xs) = some (xs, M) := noD rfl
variable {c1 c2 : String}
def isi3 (M : Sto) (o : Option Bool) : Option (D × Sto) := o.map fun b => (.bl b, M)
def isi2 (c : String) (M : Sto) (o : Option String) : Option (D × Sto) := o.bind fun t => isi3 M (kitB t c)
def isi1 (c : String) (o : Option (D × Sto)) : Option (D × Sto) := o.bind fun p => isi2 c p.2 (tyD p.2 p.1)
theorem r_isi : eIsi c1 A ρ M = isi1 c1 (A ρ M) := noD rfl
theorem r_isi1 : isi1 c1 (some (a, M)) = isi2 c1 M (tyD M a) := noD rfl
theorem r_isi2 : isi2 c1 M (some c2) = isi3 M (kitB c2 c1) := noD rfl
theorem r_isi3 : isi3 M (some t) = some (.bl t, M) := noD rfl
theorem r_ty_int : tyD M (.int x) = some "int" := noD rfl
theorem r_ty_bl : tyD M (.bl t) = some "bool" := noD rfl
theorem r_ty_non : tyD M .non = some "NoneType" := noD rfl
theorem r_ty_str : tyD M (.str s) = some "str" := noD rfl
theorem r_ty_lst : tyD M (.lst xs) = some "list" := noD rfl
theorem r_kit_int_int : kitB "int" "int" = some true := by decide +kernel
theorem r_kit_int_bool : kitB "int" "bool" = some false := by decide +kernel
theorem r_kit_bool_int : kitB "bool" "int" = some true := by decide +kernel
theorem r_kit_bool_bool : kitB "bool" "bool" = some true := by decide +kernel
theorem r_kit_NoneType_int : kitB "NoneType" "int" = some false := by decide +kernel
theorem r_kit_NoneType_bool : kitB "NoneType" "bool" = some false := by decide +kernel
theorem r_kit_str_int : kitB "str" "int" = some false := by decide +kernel
theorem r_kit_str_bool : kitB "str" "bool" = some false := by decide +kernel
theorem r_kit_list_int : kitB "list" "int" = some false := by decide +kernel
theorem r_kit_list_bool : kitB "list" "bool" = some false := by decide +kernel
variable {ρ2 : Rho}
noncomputable def lcg3 (G : EG) (F : ET) (E : EE) (ρ : Rho) (ds xs : List D) (o : Option (D × Sto)) : Option (List D × Sto) := o.bind fun y => lcGo G F E none ρ ds (xs ++ [y.1]) y.2
noncomputable def lcg2 (G : EG) (F : ET) (E : EE) (ρ ρ1 : Rho) (ds xs : List D) (o : Option (Bool × Sto)) : Option (List D × Sto) := o.bind fun q => if q.1 = true then lcg3 G F E ρ ds xs (E ρ1 q.2) else lcGo G F E none ρ ds xs q.2
noncomputable def lcg1 (G : EG) (F : ET) (E : EE) (ρ : Rho) (ds xs : List D) (o : Option (Rho × Sto)) : Option (List D × Sto) := o.bind fun p => lcg2 G F E ρ p.1 ds xs (F p.1 p.2)
theorem r_lcg_nil : lcGo G c E src ρ [] xs M = some (xs, M) := noD rfl
theorem r_lcg : lcGo G c E none ρ (d :: ds) xs M = lcg1 G c E ρ ds xs (G d ρ M) := by
  unfold lcGo lcg1
  cases G d ρ M with
  | none => rfl
  | some p =>
    show (c p.1 p.2).bind _ = (c p.1 p.2).bind _
    cases c p.1 p.2 with
    | none => rfl
    | some q =>
      obtain ⟨b, M2⟩ := q
      cases b with
      | true =>
        show (E p.1 M2).bind _ = (E p.1 M2).bind _
        cases E p.1 M2 with
        | none => rfl
        | some y => exact if_pos chk_none
      | false => exact if_pos chk_none
theorem r_lcg1 : lcg1 G c E ρ ds xs (some (ρ1, M)) = lcg2 G c E ρ ρ1 ds xs (c ρ1 M) := noD rfl
theorem r_lcg2_t : lcg2 G c E ρ ρ1 ds xs (some (true, M)) = lcg3 G c E ρ ds xs (E ρ1 M) := noD rfl
theorem r_lcg2_f : lcg2 G c E ρ ρ1 ds xs (some (false, M)) = lcGo G c E none ρ ds xs M := noD rfl
theorem r_lcg3 : lcg3 G c E ρ ds xs (some (d, M)) = lcGo G c E none ρ ds (xs ++ [d]) M := noD rfl
theorem r_cast0 : ((0 : Nat) : Int) = 0 := noD rfl
theorem r_cast1 : ((1 : Nat) : Int) = 1 := noD rfl
theorem r_cast2 : ((2 : Nat) : Int) = 2 := noD rfl
theorem r_cast3 : ((3 : Nat) : Int) = 3 := noD rfl
theorem r_cast4 : ((4 : Nat) : Int) = 4 := noD rfl
theorem r_cast5 : ((5 : Nat) : Int) = 5 := noD rfl
theorem r_cast6 : ((6 : Nat) : Int) = 6 := noD rfl
theorem r_cast7 : ((7 : Nat) : Int) = 7 := noD rfl
theorem r_cast8 : ((8 : Nat) : Int) = 8 := noD rfl
theorem r_cast9 : ((9 : Nat) : Int) = 9 := noD rfl
theorem r_cast10 : ((10 : Nat) : Int) = 10 := noD rfl
theorem r_cast11 : ((11 : Nat) : Int) = 11 := noD rfl
theorem r_cast12 : ((12 : Nat) : Int) = 12 := noD rfl
theorem r_enum1 : enumD [d] = [.tup [.int 0, d]] := noD rfl
theorem r_enum2 : enumD [d, e] = [.tup [.int 0, d], .tup [.int 1, e]] := noD rfl
end
end Y
set_option Elab.async false
set_option linter.all false
set_option maxRecDepth 100000
set_option maxHeartbeats 0
namespace Y
open PySem PySem.Spec PyProof.Rows L2
/-! ### the text by places -/
def topS (i : Nat) : Stmt := PySem.Challenge.pw_kerbcall_k79_where_books_are_dearer.main.body.getD i (.Pass ⟨0, 0, 0, 0⟩)
abbrev s_is_tier : Stmt := topS 11
abbrev N_is_tier : List Str := ["tier", "first", "unit", "price"]
theorem sc_is_tier : FnScope N_is_tier ["tier"] (defScope s_is_tier) := ⟨rfl, rfl, rfl, by decide +kernel, rfl, by decide +kernel, by decide +kernel⟩
abbrev s_is_book : Stmt := topS 12
abbrev N_is_book : List Str := ["book", "base", "tiers", "cap", "firsts", "tier", "first", "_", "one", "two"]
theorem sc_is_book : FnScope N_is_book ["book"] (defScope s_is_book) := ⟨rfl, rfl, rfl, by decide +kernel, rfl, by decide +kernel, by decide +kernel⟩
abbrev s_check_books : Stmt := topS 13
abbrev N_check_books : List Str := ["books", "k", "book"]
theorem sc_check_books : FnScope N_check_books ["books"] (defScope s_check_books) := ⟨rfl, rfl, rfl, by decide +kernel, rfl, by decide +kernel, by decide +kernel⟩
abbrev s_Piece___init__ : Stmt := inClass (topS 15) 0
abbrev N_Piece___init__ : List Str := ["self", "start", "stop", "base", "tier"]
theorem sc_Piece___init__ : FnScope N_Piece___init__ ["self", "start", "stop", "base", "tier"] (defScope s_Piece___init__) := ⟨rfl, rfl, rfl, by decide +kernel, rfl, by decide +kernel, by decide +kernel⟩
abbrev s_units : Stmt := topS 14
abbrev N_units : List Str := ["length", "unit"]
theorem sc_units : FnScope N_units ["length", "unit"] (defScope s_units) := ⟨rfl, rfl, rfl, by decide +kernel, rfl, by decide +kernel, by decide +kernel⟩
abbrev s_Piece_fare : Stmt := inClass (topS 15) 1
abbrev N_Piece_fare : List Str := ["self", "length"]
theorem sc_Piece_fare : FnScope N_Piece_fare ["self", "length"] (defScope s_Piece_fare) := ⟨rfl, rfl, rfl, by decide +kernel, rfl, by decide +kernel, by decide +kernel⟩
abbrev s_raw_pieces : Stmt := topS 16
abbrev N_raw_pieces : List Str := ["book", "base", "tiers", "_", "found", "k", "tier", "stop", "piece"]
theorem sc_raw_pieces : FnScope N_raw_pieces ["book"] (defScope s_raw_pieces) := ⟨rfl, rfl, rfl, by decide +kernel, rfl, by decide +kernel, by decide +kernel⟩
abbrev s_first_above : Stmt := topS 17
abbrev N_first_above : List Str := ["piece", "least", "length"]
theorem sc_first_above : FnScope N_first_above ["piece", "least"] (defScope s_first_above) := ⟨rfl, rfl, rfl, by decide +kernel, rfl, by decide +kernel, by decide +kernel⟩
abbrev s_pieces : Stmt := topS 18
abbrev N_pieces : List Str := ["book", "cap", "found", "piece", "reach"]
theorem sc_pieces : FnScope N_pieces ["book"] (defScope s_pieces) := ⟨rfl, rfl, rfl, by decide +kernel, rfl, by decide +kernel, by decide +kernel⟩
abbrev s_piece_at : Stmt := topS 19
abbrev N_piece_at : List Str := ["found", "length", "piece"]
theorem sc_piece_at : FnScope N_piece_at ["found", "length"] (defScope s_piece_at) := ⟨rfl, rfl, rfl, by decide +kernel, rfl, by decide +kernel, by decide +kernel⟩
abbrev s_first_between : Stmt := topS 20
abbrev N_first_between : List Str := ["one", "two", "start", "stop", "period", "last", "rise", "found", "length", "more"]
theorem sc_first_between : FnScope N_first_between ["one", "two", "start", "stop"] (defScope s_first_between) := ⟨rfl, rfl, rfl, by decide +kernel, rfl, by decide +kernel, by decide +kernel⟩
abbrev s_dearer : Stmt := topS 21
abbrev N_dearer : List Str := ["one", "two", "first", "second", "starts", "k", "start", "stop", "found", "piece"]
theorem sc_dearer : FnScope N_dearer ["one", "two"] (defScope s_dearer) := ⟨rfl, rfl, rfl, by decide +kernel, rfl, by decide +kernel, by decide +kernel⟩
abbrev s_first_dearer : Stmt := topS 22
abbrev N_first_dearer : List Str := ["one", "two"]
theorem sc_first_dearer : FnScope N_first_dearer ["one", "two"] (defScope s_first_dearer) := ⟨rfl, rfl, rfl, by decide +kernel, rfl, by decide +kernel, by decide +kernel⟩
abbrev s_first_unlike : Stmt := topS 23
abbrev N_first_unlike : List Str := ["one", "two", "found", "length"]
theorem sc_first_unlike : FnScope N_first_unlike ["one", "two"] (defScope s_first_unlike) := ⟨rfl, rfl, rfl, by decide +kernel, rfl, by decide +kernel, by decide +kernel⟩
abbrev s__law_draws : Stmt := topS 25
abbrev N__law_draws : List Str := ["script", "draws", "k", "rest", "turn", "mixed"]
theorem sc__law_draws : FnScope N__law_draws ["script"] (defScope s__law_draws) := ⟨rfl, rfl, rfl, by decide +kernel, rfl, by decide +kernel, by decide +kernel⟩
abbrev s__law_mix : Stmt := topS 26
abbrev N__law_mix : List Str := ["draws", "k", "many", "value"]
theorem sc__law_mix : FnScope N__law_mix ["draws", "k", "many"] (defScope s__law_mix) := ⟨rfl, rfl, rfl, by decide +kernel, rfl, by decide +kernel, by decide +kernel⟩
abbrev s__law_book : Stmt := topS 27
abbrev N__law_book : List Str := ["draws", "first", "kind", "base", "tiers", "start", "k", "at", "unit", "cap"]
theorem sc__law_book : FnScope N__law_book ["draws", "first", "kind"] (defScope s__law_book) := ⟨rfl, rfl, rfl, by decide +kernel, rfl, by decide +kernel, by decide +kernel⟩
abbrev s__law_turned : Stmt := topS 30
abbrev N__law_turned : List Str := ["draws", "first", "book", "base", "tiers", "cap", "word", "k", "start", "unit", "price"]
theorem sc__law_turned : FnScope N__law_turned ["draws", "first", "book"] (defScope s__law_turned) := ⟨rfl, rfl, rfl, by decide +kernel, rfl, by decide +kernel, by decide +kernel⟩
abbrev s__law_raw : Stmt := topS 28
abbrev N__law_raw : List Str := ["book", "length", "base", "tiers", "cap", "total", "k", "first", "unit", "price", "part"]
theorem sc__law_raw : FnScope N__law_raw ["book", "length"] (defScope s__law_raw) := ⟨rfl, rfl, rfl, by decide +kernel, rfl, by decide +kernel, by decide +kernel⟩
abbrev s__law_fare : Stmt := topS 29
abbrev N__law_fare : List Str := ["book", "length", "raw"]
theorem sc__law_fare : FnScope N__law_fare ["book", "length"] (defScope s__law_fare) := ⟨rfl, rfl, rfl, by decide +kernel, rfl, by decide +kernel, by decide +kernel⟩
abbrev s__law_first : Stmt := topS 31
abbrev N__law_first : List Str := ["one", "two", "word", "length", "a", "b"]
theorem sc__law_first : FnScope N__law_first ["one", "two", "word"] (defScope s__law_first) := ⟨rfl, rfl, rfl, by decide +kernel, rfl, by decide +kernel, by decide +kernel⟩
abbrev s__law_is_told : Stmt := topS 32
abbrev N__law_is_told : List Str := ["told", "due", "one", "two", "word", "a", "b"]
theorem sc__law_is_told : FnScope N__law_is_told ["told", "due", "one", "two", "word"] (defScope s__law_is_told) := ⟨rfl, rfl, rfl, by decide +kernel, rfl, by decide +kernel, by decide +kernel⟩
abbrev s_law : Stmt := topS 33
abbrev N_law : List Str := ["script", "draws", "one", "two", "kept", "first", "second"]
theorem sc_law : FnScope N_law ["script"] (defScope s_law) := ⟨rfl, rfl, rfl, by decide +kernel, rfl, by decide +kernel, by decide +kernel⟩
/-! ### what each def computes -/
noncomputable def B_is_tier : ES :=
  sSeq (sAsg (eVar 0) (gT 3 (gsCons (gN 1) (gsCons (gN 2) (gsCons (gN 3) (gsNil))))))
  (sRet (eAnd (eChain oLe oLe (eC (.int 0)) (eVar 1) (eC (.int 300))) (eAnd (eChain oLe oLe (eC (.int 1)) (eVar 2) (eC (.int 60))) (eChain oLe oLe (eC (.int 0)) (eVar 3) (eC (.int 1000))))))
noncomputable def f_is_tier : List D → Option D := runP 4 B_is_tier fz1
noncomputable def B_is_book : ES :=
  sSeq (sAsg (eVar 0) (gT 3 (gsCons (gN 1) (gsCons (gN 2) (gsCons (gN 3) (gsNil))))))
  (sSeq (sIf (bOr (bNot (bTest (eChain oLe oLe (eC (.int 0)) (eVar 1) (eC (.int 100000))))) (bOr (bNot (bTest (eChain oLe oLe (eC (.int 1)) (eCa cLen (aCons (eVar 2) (aNil))) (eC (.int 5))))) (bNot (bTru (eCa cAll (aCons (eFrz (lLc (iSq (eVar 2)) (gN 5) (bYes) (eCall f_is_tier (aCons (eVar 5) (aNil))) [5])) (aNil))))))) (sRet (eC (.bl false))) (sNext))
  (sSeq (sAsg (eFrz (lLc (iSq (eVar 2)) (gT 3 (gsCons (gN 6) (gsCons (gN 7) (gsCons (gN 7) (gsNil))))) (bYes) (eVar 6) [6, 7])) (gN 4))
  (sSeq (sIf (bOr (bTest (eBin oNe (eBin oIx (eVar 4) (eC (.int 0))) (eC (.int 0)))) (bNot (bTru (eCa cAll (aCons (eFrz (lLc (iZp (aCons (eVar 4) (aCons (eFrz (lSl (eVar 4) (oSome (eC (.int 1))) (oNone))) (aNil)))) (gT 2 (gsCons (gN 8) (gsCons (gN 9) (gsNil)))) (bYes) (eBin oLt (eVar 8) (eVar 9)) [8, 9])) (aNil)))))) (sRet (eC (.bl false))) (sNext))
  (sRet (eOr (eBin oIsN (eVar 3) (eC .non)) (eChain oLe oLe (eC (.int 0)) (eVar 3) (eC (.int 1000000))))))))
noncomputable def f_is_book : List D → Option D := runP 10 B_is_book fz1
noncomputable def B_check_books : ES :=
  sFor (iEn (aCons (eVar 0) (aNil))) (gT 2 (gsCons (gN 1) (gsCons (gN 2) (gsNil)))) (sIf (bNot (bTru (eCall f_is_book (aCons (eVar 2) (aNil))))) (sNever) (sNext))
noncomputable def f_check_books : List D → Option D := runP 3 B_check_books fz1
noncomputable def B_Piece___init__ : ES :=
  sSeq (sFldD 0 "start" (eVar 0) (eVar 1))
  (sSeq (sFldD 0 "stop" (eVar 0) (eVar 2))
  (sSeq (sFldD 0 "base" (eVar 0) (eVar 3))
  (sAsg (eVar 4) (gT 3 (gsCons (gFld 0 "first" (eVar 0)) (gsCons (gFld 0 "unit" (eVar 0)) (gsCons (gFld 0 "price" (eVar 0)) (gsNil))))))))
noncomputable def f_Piece___init__ : List D → Option D := runI 5 0 B_Piece___init__
noncomputable def B_units : ES :=
  sRet (eUn oNeg (eBin oFdiv (eUn oNeg (eVar 0)) (eVar 1)))
noncomputable def f_units : List D → Option D := runP 2 B_units fz1
noncomputable def B_Piece_fare : ES :=
  sRet (eBin oAdd (eFld 0 "base" (eVar 0)) (eBin oMul (eFld 0 "price" (eVar 0)) (eCall f_units (aCons (eBin oSub (eVar 1) (eFld 0 "first" (eVar 0))) (aCons (eFld 0 "unit" (eVar 0)) (aNil))))))
noncomputable def f_Piece_fare : List D → Option D := runP 2 B_Piece_fare fz1
noncomputable def B_raw_pieces : ES :=
  sSeq (sAsg (eVar 0) (gT 3 (gsCons (gN 1) (gsCons (gN 2) (gsCons (gN 3) (gsNil))))))
  (sSeq (sAsg (eMlt (lLst (aCons (eCall f_Piece___init__ (aCons (eC (.int 0)) (aCons (eC (.int 0)) (aCons (eVar 1) (aCons (eTup (aCons (eC (.int 0)) (aCons (eC (.int 1)) (aCons (eC (.int 0)) (aNil))))) (aNil)))))) (aNil)))) (gN 4))
  (sSeq (sFor (iEn (aCons (eVar 2) (aNil))) (gT 2 (gsCons (gN 5) (gsCons (gN 6) (gsNil)))) (sSeq (sAsg (eC .non) (gN 7))
  (sSeq (sIf (bTest (eBin oLt (eBin oAdd (eVar 5) (eC (.int 1))) (eCa cLen (aCons (eVar 2) (aNil))))) (sAsg (eBin oIx (eBin oIx (eVar 2) (eBin oAdd (eVar 5) (eC (.int 1)))) (eC (.int 0))) (gN 7)) (sNext))
  (sSeq (sAsg (eCall f_Piece___init__ (aCons (eBin oAdd (eBin oIx (eVar 6) (eC (.int 0))) (eC (.int 1))) (aCons (eVar 7) (aCons (eVar 1) (aCons (eVar 6) (aNil)))))) (gN 8))
  (sSeq (sDrop (eApp (eVar 4) (eVar 8)))
  (sIf (bTest (eBin oNotN (eVar 7) (eC .non))) (sAsg (eMeth 0 "fare" f_Piece_fare (eVar 8) (aCons (eVar 7) (aNil))) (gN 1)) (sNext)))))))
  (sSeq (sFrz 4) (sRet (eVar 4)))))
noncomputable def f_raw_pieces : List D → Option D := runP 9 B_raw_pieces fz1
noncomputable def B_first_above : ES :=
  sSeq (sAsg (eFld 0 "start" (eVar 0)) (gN 2))
  (sSeq (sIf (bTest (eBin oLt (eMeth 0 "fare" f_Piece_fare (eVar 0) (aCons (eVar 2) (aNil))) (eVar 1))) (sSeq (sIf (bTest (eBin oEq (eFld 0 "price" (eVar 0)) (eC (.int 0)))) (sRet (eC .non)) (sNext))
  (sAsg (eBin oAdd (eBin oAdd (eFld 0 "first" (eVar 0)) (eBin oMul (eBin oSub (eCall f_units (aCons (eBin oSub (eVar 1) (eFld 0 "base" (eVar 0))) (aCons (eFld 0 "price" (eVar 0)) (aNil)))) (eC (.int 1))) (eFld 0 "unit" (eVar 0)))) (eC (.int 1))) (gN 2))) (sNext))
  (sSeq (sIf (bAnd (bTest (eBin oNotN (eFld 0 "stop" (eVar 0)) (eC .non))) (bTest (eBin oGt (eVar 2) (eFld 0 "stop" (eVar 0))))) (sRet (eC .non)) (sNext))
  (sRet (eVar 2))))
noncomputable def f_first_above : List D → Option D := runP 3 B_first_above fz1
noncomputable def B_pieces : ES :=
  sSeq (sAsg (eBin oIx (eVar 0) (eC (.int 2))) (gN 1))
  (sSeq (sAsg (eMlt (lLst (aNil))) (gN 2))
  (sSeq (sFor (iSq (eCall f_raw_pieces (aCons (eVar 0) (aNil)))) (gN 3) (sSeq (sAsg (eC .non) (gN 4))
  (sSeq (sIf (bTest (eBin oNotN (eVar 1) (eC .non))) (sAsg (eCall f_first_above (aCons (eVar 3) (aCons (eVar 1) (aNil)))) (gN 4)) (sNext))
  (sSeq (sIf (bTest (eBin oNotN (eVar 4) (eC .non))) (sSeq (sIf (bTest (eBin oGt (eVar 4) (eFld 0 "start" (eVar 3)))) (sDrop (eApp (eVar 2) (eCall f_Piece___init__ (aCons (eFld 0 "start" (eVar 3)) (aCons (eBin oSub (eVar 4) (eC (.int 1))) (aCons (eFld 0 "base" (eVar 3)) (aCons (eTup (aCons (eFld 0 "first" (eVar 3)) (aCons (eFld 0 "unit" (eVar 3)) (aCons (eFld 0 "price" (eVar 3)) (aNil))))) (aNil)))))))) (sNext))
  (sSeq (sDrop (eApp (eVar 2) (eCall f_Piece___init__ (aCons (eVar 4) (aCons (eC .non) (aCons (eVar 1) (aCons (eTup (aCons (eC (.int 0)) (aCons (eC (.int 1)) (aCons (eC (.int 0)) (aNil))))) (aNil))))))))
  (sRet (eVar 2)))) (sNext))
  (sDrop (eApp (eVar 2) (eVar 3)))))))
  (sSeq (sFrz 2) (sRet (eVar 2)))))
noncomputable def f_pieces : List D → Option D := runP 5 B_pieces fz1
noncomputable def B_piece_at : ES :=
  sRet (eBin oIx (eFrz (lLc (iSq (eVar 0)) (gN 2) (bTest (eBin oLe (eFld 0 "start" (eVar 2)) (eVar 1))) (eVar 2) [2])) (eUn oNeg (eC (.int 1))))
noncomputable def f_piece_at : List D → Option D := runP 3 B_piece_at fz1
noncomputable def B_first_between : ES :=
  sSeq (sAsg (eCa cLcm (aCons (eFld 0 "unit" (eVar 0)) (aCons (eFld 0 "unit" (eVar 1)) (aNil)))) (gN 4))
  (sSeq (sAsg (eBin oSub (eBin oAdd (eVar 2) (eVar 4)) (eC (.int 1))) (gN 5))
  (sSeq (sIf (bAnd (bTest (eBin oNotN (eVar 3) (eC .non))) (bTest (eBin oLt (eVar 3) (eVar 5)))) (sAsg (eVar 3) (gN 5)) (sNext))
  (sSeq (sAsg (eBin oSub (eBin oMul (eFld 0 "price" (eVar 0)) (eBin oFdiv (eVar 4) (eFld 0 "unit" (eVar 0)))) (eBin oMul (eFld 0 "price" (eVar 1)) (eBin oFdiv (eVar 4) (eFld 0 "unit" (eVar 1))))) (gN 6))
  (sSeq (sAsg (eMlt (lLst (aNil))) (gN 7))
  (sSeq (sFor (iR2 (aCons (eVar 2) (aCons (eBin oAdd (eVar 5) (eC (.int 1))) (aNil)))) (gN 8) (sSeq (sAsg (eBin oSub (eMeth 0 "fare" f_Piece_fare (eVar 0) (aCons (eVar 8) (aNil))) (eMeth 0 "fare" f_Piece_fare (eVar 1) (aCons (eVar 8) (aNil)))) (gN 9))
  (sSeq (sIf (bTest (eBin oGt (eVar 9) (eC (.int 0)))) (sRet (eVar 8)) (sNext))
  (sIf (bTest (eBin oGt (eVar 6) (eC (.int 0)))) (sDrop (eApp (eVar 7) (eBin oAdd (eVar 8) (eBin oMul (eVar 4) (eBin oAdd (eBin oFdiv (eUn oNeg (eVar 9)) (eVar 6)) (eC (.int 1))))))) (sNext)))))
  (sSeq (sFrz 7) (sSeq (sAsg (eMlt (lLc (iSq (eVar 7)) (gN 8) (bOr (bTest (eBin oIsN (eVar 3) (eC .non))) (bTest (eBin oLe (eVar 8) (eVar 3)))) (eVar 8) [8])) (gN 7))
  (sSeq (sFrz 7) (sSeq (sIf (bTest (eBin oEq (eCa cLen (aCons (eVar 7) (aNil))) (eC (.int 0)))) (sRet (eC .non)) (sNext))
  (sSeq (sFrz 7) (sRet (eCa cMin (aCons (eVar 7) (aNil))))))))))))))
noncomputable def f_first_between : List D → Option D := runP 10 B_first_between fz1
noncomputable def B_dearer : ES :=
  sSeq (sAsg (eCall f_pieces (aCons (eVar 0) (aNil))) (gN 2))
  (sSeq (sAsg (eCall f_pieces (aCons (eVar 1) (aNil))) (gN 3))
  (sSeq (sAsg (eFrz (lSrt (lLc (iSq (eFrz (lLst (aStar (eVar 2) (aStar (eVar 3) (aNil)))))) (gN 9) (bYes) (eFld 0 "start" (eVar 9)) [9]))) (gN 4))
  (sSeq (sFor (iEn (aCons (eVar 4) (aNil))) (gT 2 (gsCons (gN 5) (gsCons (gN 6) (gsNil)))) (sSeq (sAsg (eC .non) (gN 7))
  (sSeq (sIf (bTest (eBin oLt (eBin oAdd (eVar 5) (eC (.int 1))) (eCa cLen (aCons (eVar 4) (aNil))))) (sAsg (eBin oSub (eBin oIx (eVar 4) (eBin oAdd (eVar 5) (eC (.int 1)))) (eC (.int 1))) (gN 7)) (sNext))
  (sSeq (sAsg (eCall f_first_between (aCons (eCall f_piece_at (aCons (eVar 2) (aCons (eVar 6) (aNil)))) (aCons (eCall f_piece_at (aCons (eVar 3) (aCons (eVar 6) (aNil)))) (aCons (eVar 6) (aCons (eVar 7) (aNil)))))) (gN 8))
  (sIf (bTest (eBin oNotN (eVar 8) (eC .non))) (sRet (eVar 8)) (sNext))))))
  (sRet (eC .non)))))
noncomputable def f_dearer : List D → Option D := runP 10 B_dearer fz1
noncomputable def B_first_dearer : ES :=
  sSeq (sDrop (eCall f_check_books (aCons (eFrz (lLst (aCons (eVar 0) (aCons (eVar 1) (aNil))))) (aNil))))
  (sRet (eCall f_dearer (aCons (eVar 0) (aCons (eVar 1) (aNil)))))
noncomputable def f_first_dearer : List D → Option D := runP 2 B_first_dearer fz1
noncomputable def B_first_unlike : ES :=
  sSeq (sDrop (eCall f_check_books (aCons (eFrz (lLst (aCons (eVar 0) (aCons (eVar 1) (aNil))))) (aNil))))
  (sSeq (sAsg (eFrz (lLc (iSq (eFrz (lLst (aCons (eCall f_dearer (aCons (eVar 0) (aCons (eVar 1) (aNil)))) (aCons (eCall f_dearer (aCons (eVar 1) (aCons (eVar 0) (aNil)))) (aNil)))))) (gN 3) (bTest (eBin oNotN (eVar 3) (eC .non))) (eVar 3) [3])) (gN 2))
  (sSeq (sIf (bTest (eBin oEq (eCa cLen (aCons (eVar 2) (aNil))) (eC (.int 0)))) (sRet (eC .non)) (sNext))
  (sRet (eCa cMin (aCons (eVar 2) (aNil))))))
noncomputable def f_first_unlike : List D → Option D := runP 4 B_first_unlike fz1
noncomputable def B__law_draws : ES :=
  sSeq (sAsg (eMlt (lLst (aNil))) (gN 1))
  (sSeq (sFor (iR1 (aCons (eCa cMin2 (aCons (eC (.int 63)) (aCons (eCa cLen (aCons (eVar 0) (aNil))) (aNil)))) (aNil))) (gN 2) (sSeq (sAsg (eCa cAbs (aCons (eBin oIx (eVar 0) (eVar 2)) (aNil))) (gN 3))
  (sIf (bTest (eBin oGe (eVar 3) (eBin oPow (eC (.int 10)) (eC (.int 18))))) (sFor (iR1 (aCons (eC (.int 60)) (aNil))) (gN 4) (sIf (bTest (eBin oGt (eVar 3) (eC (.int 0)))) (sSeq (sDrop (eApp (eVar 1) (eBin oMod (eCa cInt (aCons (eVar 3) (aNil))) (eC (.int 65536)))))
  (sAsg (eBin oFdiv (eVar 3) (eC (.int 65536))) (gN 3))) (sNext))) (sSeq (sAsg (eBin oMod (eCa cInt (aCons (eBin oAdd (eBin oMul (eVar 3) (eC (.int 48271))) (eBin oMul (eBin oAdd (eVar 2) (eC (.int 1))) (eC (.int 69621)))) (aNil))) (eC (.int 2147483647))) (gN 5))
  (sSeq (sAsg (eBin oMod (eCa cInt (aCons (eBin oAdd (eBin oAdd (eBin oMul (eVar 5) (eC (.int 16807))) (eBin oMul (eC (.int 11)) (eVar 2))) (eC (.int 5))) (aNil))) (eC (.int 2147483629))) (gN 5))
  (sSeq (sDrop (eApp (eVar 1) (eBin oMod (eCa cInt (aCons (eVar 5) (aNil))) (eC (.int 65536)))))
  (sDrop (eApp (eVar 1) (eBin oMod (eCa cInt (aCons (eBin oFdiv (eVar 5) (eC (.int 65536))) (aNil))) (eC (.int 32768)))))))))))
  (sSeq (sFrz 1) (sRet (eVar 1))))
noncomputable def f__law_draws : List D → Option D := runP 6 B__law_draws fz1
noncomputable def B__law_mix : ES :=
  sSeq (sAsg (eC (.int 0)) (gN 3))
  (sSeq (sIf (bTest (eBin oGt (eCa cLen (aCons (eVar 0) (aNil))) (eC (.int 0)))) (sAsg (eBin oIx (eVar 0) (eBin oMod (eCa cInt (aCons (eVar 1) (aNil))) (eCa cLen (aCons (eVar 0) (aNil))))) (gN 3)) (sNext))
  (sSeq (sIf (bTest (eBin oLt (eVar 1) (eCa cLen (aCons (eVar 0) (aNil))))) (sRet (eBin oMod (eCa cInt (aCons (eVar 3) (aNil))) (eVar 2))) (sNext))
  (sRet (eBin oMod (eCa cInt (aCons (eBin oFdiv (eCa cInt (aCons (eBin oAdd (eBin oMul (eVar 3) (eC (.int 7919))) (eBin oMul (eVar 1) (eC (.int 104729)))) (aNil))) (eC (.int 3))) (aNil))) (eVar 2)))))
noncomputable def f__law_mix : List D → Option D := runP 4 B__law_mix fz1
noncomputable def B__law_book : ES :=
  sSeq (sAsg (eCall f__law_mix (aCons (eVar 0) (aCons (eVar 1) (aCons (eBin oIx (eFrz (lLst (aCons (eC (.int 6)) (aCons (eC (.int 50)) (aCons (eC (.int 100001)) (aNil)))))) (eVar 2)) (aNil))))) (gN 3))
  (sSeq (sAsg (eMlt (lLst (aNil))) (gN 4))
  (sSeq (sAsg (eC (.int 0)) (gN 5))
  (sSeq (sFor (iR1 (aCons (eBin oAdd (eC (.int 1)) (eCall f__law_mix (aCons (eVar 0) (aCons (eBin oAdd (eVar 1) (eC (.int 1))) (aCons (eBin oIx (eFrz (lLst (aCons (eC (.int 3)) (aCons (eC (.int 5)) (aCons (eC (.int 5)) (aNil)))))) (eVar 2)) (aNil)))))) (aNil))) (gN 6) (sSeq (sAsg (eBin oAdd (eBin oAdd (eVar 1) (eC (.int 10))) (eBin oMul (eC (.int 4)) (eVar 6))) (gN 7))
  (sSeq (sAsg (eBin oAdd (eC (.int 1)) (eCall f__law_mix (aCons (eVar 0) (aCons (eVar 7) (aCons (eBin oIx (eFrz (lLst (aCons (eC (.int 4)) (aCons (eC (.int 12)) (aCons (eC (.int 60)) (aNil)))))) (eVar 2)) (aNil)))))) (gN 8))
  (sSeq (sDrop (eApp (eVar 4) (eTup (aCons (eVar 5) (aCons (eVar 8) (aCons (eCall f__law_mix (aCons (eVar 0) (aCons (eBin oAdd (eVar 7) (eC (.int 1))) (aCons (eBin oIx (eFrz (lLst (aCons (eC (.int 4)) (aCons (eC (.int 20)) (aCons (eC (.int 1001)) (aNil)))))) (eVar 2)) (aNil))))) (aNil)))))))
  (sAsg (eBin oAdd (eBin oAdd (eVar 5) (eC (.int 1))) (eCall f__law_mix (aCons (eVar 0) (aCons (eBin oAdd (eVar 7) (eC (.int 2))) (aCons (eBin oIx (eFrz (lLst (aCons (eC (.int 6)) (aCons (eC (.int 25)) (aCons (eC (.int 59)) (aNil)))))) (eVar 2)) (aNil)))))) (gN 5))))))
  (sSeq (sAsg (eC .non) (gN 9))
  (sSeq (sIf (bTest (eBin oEq (eCall f__law_mix (aCons (eVar 0) (aCons (eBin oAdd (eVar 1) (eC (.int 2))) (aCons (eC (.int 2)) (aNil))))) (eC (.int 1)))) (sAsg (eCall f__law_mix (aCons (eVar 0) (aCons (eBin oAdd (eVar 1) (eC (.int 3))) (aCons (eBin oIx (eFrz (lLst (aCons (eC (.int 20)) (aCons (eC (.int 400)) (aCons (eC (.int 1000001)) (aNil)))))) (eVar 2)) (aNil))))) (gN 9)) (sNext))
  (sSeq (sFrz 4) (sRet (eTup (aCons (eVar 3) (aCons (eVar 4) (aCons (eVar 9) (aNil))))))))))))
noncomputable def f__law_book : List D → Option D := runP 10 B__law_book fz1
noncomputable def B__law_turned : ES :=
  sSeq (sAsg (eVar 2) (gT 3 (gsCons (gN 3) (gsCons (gN 4) (gsCons (gN 5) (gsNil))))))
  (sSeq (sAsg (eCall f__law_mix (aCons (eVar 0) (aCons (eVar 1) (aCons (eC (.int 7)) (aNil))))) (gN 6))
  (sSeq (sAsg (eCall f__law_mix (aCons (eVar 0) (aCons (eBin oAdd (eVar 1) (eC (.int 1))) (aCons (eCa cLen (aCons (eVar 4) (aNil))) (aNil))))) (gN 7))
  (sSeq (sAsg (eBin oIx (eVar 4) (eVar 7)) (gT 3 (gsCons (gN 8) (gsCons (gN 9) (gsCons (gN 10) (gsNil))))))
  (sSeq (sIf (bTest (eBin oEq (eVar 6) (eC (.int 0)))) (sRet (eTup (aCons (eBin oAdd (eBin oAdd (eVar 3) (eC (.int 1))) (eCall f__law_mix (aCons (eVar 0) (aCons (eBin oAdd (eVar 1) (eC (.int 2))) (aCons (eC (.int 3)) (aNil)))))) (aCons (eVar 4) (aCons (eVar 5) (aNil)))))) (sNext))
  (sSeq (sIf (bTest (eBin oEq (eVar 6) (eC (.int 1)))) (sRet (eTup (aCons (eVar 3) (aCons (eBin oAdd (eBin oAdd (eFrz (lSl (eVar 4) (oNone) (oSome (eVar 7)))) (eFrz (lLst (aCons (eTup (aCons (eVar 8) (aCons (eVar 9) (aCons (eBin oAdd (eVar 10) (eC (.int 1))) (aNil))))) (aNil))))) (eFrz (lSl (eVar 4) (oSome (eBin oAdd (eVar 7) (eC (.int 1)))) (oNone)))) (aCons (eVar 5) (aNil)))))) (sNext))
  (sSeq (sIf (bTest (eBin oEq (eVar 6) (eC (.int 2)))) (sRet (eTup (aCons (eVar 3) (aCons (eBin oAdd (eBin oAdd (eFrz (lSl (eVar 4) (oNone) (oSome (eVar 7)))) (eFrz (lLst (aCons (eTup (aCons (eVar 8) (aCons (eBin oMul (eC (.int 2)) (eVar 9)) (aCons (eBin oMul (eC (.int 2)) (eVar 10)) (aNil))))) (aNil))))) (eFrz (lSl (eVar 4) (oSome (eBin oAdd (eVar 7) (eC (.int 1)))) (oNone)))) (aCons (eVar 5) (aNil)))))) (sNext))
  (sSeq (sIf (bTest (eBin oEq (eVar 6) (eC (.int 3)))) (sRet (eTup (aCons (eVar 3) (aCons (eVar 4) (aCons (eBin oIx (eFrz (lLst (aCons (eC .non) (aCons (eC (.int 9)) (aCons (eC (.int 12)) (aNil)))))) (eCall f__law_mix (aCons (eVar 0) (aCons (eBin oAdd (eVar 1) (eC (.int 2))) (aCons (eC (.int 3)) (aNil)))))) (aNil)))))) (sNext))
  (sSeq (sIf (bAnd (bTest (eBin oEq (eVar 6) (eC (.int 4)))) (bAnd (bTest (eBin oEq (eVar 7) (eBin oSub (eCa cLen (aCons (eVar 4) (aNil))) (eC (.int 1))))) (bTest (eBin oLt (eCa cLen (aCons (eVar 4) (aNil))) (eC (.int 5)))))) (sRet (eTup (aCons (eVar 3) (aCons (eBin oAdd (eVar 4) (eFrz (lLst (aCons (eTup (aCons (eBin oAdd (eVar 8) (eBin oMul (eVar 9) (eBin oAdd (eC (.int 1)) (eCall f__law_mix (aCons (eVar 0) (aCons (eBin oAdd (eVar 1) (eC (.int 2))) (aCons (eC (.int 4)) (aNil)))))))) (aCons (eVar 9) (aCons (eVar 10) (aNil))))) (aNil))))) (aCons (eVar 5) (aNil)))))) (sNext))
  (sSeq (sIf (bTest (eBin oEq (eVar 6) (eC (.int 5)))) (sRet (eTup (aCons (eVar 3) (aCons (eFrz (lList (eVar 4))) (aCons (eVar 5) (aNil)))))) (sNext))
  (sRet (eCall f__law_book (aCons (eVar 0) (aCons (eBin oAdd (eVar 1) (eC (.int 10))) (aCons (eC (.int 0)) (aNil)))))))))))))))
noncomputable def f__law_turned : List D → Option D := runP 11 B__law_turned fz1
noncomputable def B__law_raw : ES :=
  sSeq (sAsg (eVar 0) (gT 3 (gsCons (gN 2) (gsCons (gN 3) (gsCons (gN 4) (gsNil))))))
  (sSeq (sAsg (eVar 2) (gN 5))
  (sSeq (sFor (iR1 (aCons (eCa cLen (aCons (eVar 3) (aNil))) (aNil))) (gN 6) (sSeq (sAsg (eBin oIx (eVar 3) (eVar 6)) (gT 3 (gsCons (gN 7) (gsCons (gN 8) (gsCons (gN 9) (gsNil))))))
  (sSeq (sAsg (eBin oSub (eVar 1) (eVar 7)) (gN 10))
  (sSeq (sIf (bTest (eBin oLt (eBin oAdd (eVar 6) (eC (.int 1))) (eCa cLen (aCons (eVar 3) (aNil))))) (sAsg (eCa cMin2 (aCons (eVar 10) (aCons (eBin oSub (eBin oIx (eBin oIx (eVar 3) (eBin oAdd (eVar 6) (eC (.int 1)))) (eC (.int 0))) (eVar 7)) (aNil)))) (gN 10)) (sNext))
  (sIf (bTest (eBin oGt (eVar 10) (eC (.int 0)))) (sAsg (eBin oAdd (eVar 5) (eBin oMul (eVar 9) (eCa cInt (aCons (eBin oFdiv (eBin oSub (eBin oAdd (eVar 10) (eVar 8)) (eC (.int 1))) (eVar 8)) (aNil))))) (gN 5)) (sNext))))))
  (sRet (eVar 5))))
noncomputable def f__law_raw : List D → Option D := runP 11 B__law_raw fz1
noncomputable def B__law_fare : ES :=
  sSeq (sAsg (eCall f__law_raw (aCons (eVar 0) (aCons (eVar 1) (aNil)))) (gN 2))
  (sSeq (sIf (bAnd (bTest (eBin oNotN (eBin oIx (eVar 0) (eC (.int 2))) (eC .non))) (bTest (eBin oGt (eVar 2) (eBin oIx (eVar 0) (eC (.int 2)))))) (sRet (eBin oIx (eVar 0) (eC (.int 2)))) (sNext))
  (sRet (eVar 2)))
noncomputable def f__law_fare : List D → Option D := runP 3 B__law_fare fz1
noncomputable def B__law_first : ES :=
  sSeq (sFor (iR1 (aCons (eC (.int 501)) (aNil))) (gN 3) (sSeq (sAsg (eCall f__law_fare (aCons (eVar 0) (aCons (eVar 3) (aNil)))) (gN 4))
  (sSeq (sAsg (eCall f__law_fare (aCons (eVar 1) (aCons (eVar 3) (aNil)))) (gN 5))
  (sIf (bOr (bAnd (bTest (eBin oEq (eVar 2) (eC (.int 0)))) (bTest (eBin oGt (eVar 4) (eVar 5)))) (bAnd (bTest (eBin oEq (eVar 2) (eC (.int 1)))) (bTest (eBin oNe (eVar 4) (eVar 5))))) (sRet (eVar 3)) (sNext)))))
  (sRet (eC .non))
noncomputable def f__law_first : List D → Option D := runP 6 B__law_first fz1
noncomputable def B__law_is_told : ES :=
  sSeq (sIf (bTest (eBin oNotN (eVar 1) (eC .non))) (sRet (eAnd (eIsi "int" (eVar 0)) (eAnd (eNot (eIsi "bool" (eVar 0))) (eBin oEq (eVar 0) (eVar 1))))) (sNext))
  (sSeq (sIf (bTest (eBin oIsN (eVar 0) (eC .non))) (sRet (eC (.bl true))) (sNext))
  (sSeq (sIf (bOr (bNot (bTru (eIsi "int" (eVar 0)))) (bOr (bTru (eIsi "bool" (eVar 0))) (bTest (eBin oLe (eVar 0) (eC (.int 500)))))) (sRet (eC (.bl false))) (sNext))
  (sSeq (sAsg (eCall f__law_fare (aCons (eVar 2) (aCons (eVar 0) (aNil)))) (gN 5))
  (sSeq (sAsg (eCall f__law_fare (aCons (eVar 3) (aCons (eVar 0) (aNil)))) (gN 6))
  (sRet (eOr (eAnd (eBin oEq (eVar 4) (eC (.int 0))) (eBin oGt (eVar 5) (eVar 6))) (eAnd (eBin oEq (eVar 4) (eC (.int 1))) (eBin oNe (eVar 5) (eVar 6)))))))))
noncomputable def f__law_is_told : List D → Option D := runP 7 B__law_is_told fz1
noncomputable def B_law : ES :=
  sSeq (sAsg (eCall f__law_draws (aCons (eVar 0) (aNil))) (gN 1))
  (sSeq (sAsg (eCall f__law_book (aCons (eVar 1) (aCons (eC (.int 10)) (aCons (eBin oIx (eFrz (lLst (aCons (eC (.int 0)) (aCons (eC (.int 0)) (aCons (eC (.int 1)) (aNil)))))) (eCall f__law_mix (aCons (eVar 1) (aCons (eC (.int 1)) (aCons (eC (.int 3)) (aNil)))))) (aNil))))) (gN 2))
  (sSeq (sAsg (eCall f__law_turned (aCons (eVar 1) (aCons (eC (.int 100)) (aCons (eVar 2) (aNil))))) (gN 3))
  (sSeq (sAsg (eCa cRepr (aCons (eTup (aCons (eVar 2) (aCons (eVar 3) (aNil)))) (aNil))) (gN 4))
  (sSeq (sFor (iSq (eFrz (lLst (aCons (eTup (aCons (eVar 2) (aCons (eVar 3) (aNil)))) (aCons (eTup (aCons (eVar 3) (aCons (eVar 2) (aNil)))) (aCons (eTup (aCons (eVar 2) (aCons (eVar 2) (aNil)))) (aNil))))))) (gT 2 (gsCons (gN 5) (gsCons (gN 6) (gsNil)))) (sSeq (sIf (bNot (bTru (eCall f__law_is_told (aCons (eCall f_first_dearer (aCons (eVar 5) (aCons (eVar 6) (aNil)))) (aCons (eCall f__law_first (aCons (eVar 5) (aCons (eVar 6) (aCons (eC (.int 0)) (aNil))))) (aCons (eVar 5) (aCons (eVar 6) (aCons (eC (.int 0)) (aNil))))))))) (sRet (eC (.bl false))) (sNext))
  (sIf (bNot (bTru (eCall f__law_is_told (aCons (eCall f_first_unlike (aCons (eVar 5) (aCons (eVar 6) (aNil)))) (aCons (eCall f__law_first (aCons (eVar 5) (aCons (eVar 6) (aCons (eC (.int 1)) (aNil))))) (aCons (eVar 5) (aCons (eVar 6) (aCons (eC (.int 1)) (aNil))))))))) (sRet (eC (.bl false))) (sNext))))
  (sSeq (sIf (bOr (bTest (eBin oNotN (eCall f_first_dearer (aCons (eVar 2) (aCons (eVar 2) (aNil)))) (eC .non))) (bTest (eBin oNotN (eCall f_first_unlike (aCons (eVar 3) (aCons (eVar 3) (aNil)))) (eC .non)))) (sRet (eC (.bl false))) (sNext))
  (sRet (eBin oEq (eCa cRepr (aCons (eTup (aCons (eVar 2) (aCons (eVar 3) (aNil)))) (aNil))) (eVar 4))))))))
end Y
set_option Elab.async false
set_option linter.all false
set_option maxRecDepth 100000
set_option maxHeartbeats 0
namespace Y
open PySem PySem.Spec PyProof.Rows L2
/-! ### what the top has written -/
structure Txt (K : PySem.W.Frag) (mg : Str → Option Value) (cl : Nat → Addr) where
  a_is_tier : Addr
  d_is_tier : FuncData
  F_is_tier : Fun K "is_tier" "is_tier" s_is_tier a_is_tier d_is_tier
  b_is_tier : Binds K d_is_tier ["tier"] []
  m_is_tier : mg "is_tier" = some (.ref a_is_tier)
  a_is_book : Addr
  d_is_book : FuncData
  F_is_book : Fun K "is_book" "is_book" s_is_book a_is_book d_is_book
  b_is_book : Binds K d_is_book ["book"] []
  m_is_book : mg "is_book" = some (.ref a_is_book)
  a_check_books : Addr
  d_check_books : FuncData
  F_check_books : Fun K "check_books" "check_books" s_check_books a_check_books d_check_books
  b_check_books : Binds K d_check_books ["books"] []
  m_check_books : mg "check_books" = some (.ref a_check_books)
  a_Piece___init__ : Addr
  d_Piece___init__ : FuncData
  F_Piece___init__ : Fun K "__init__" "Piece.__init__" s_Piece___init__ a_Piece___init__ d_Piece___init__
  b_Piece___init__ : Binds K d_Piece___init__ ["self", "start", "stop", "base", "tier"] []
  a_units : Addr
  d_units : FuncData
  F_units : Fun K "units" "units" s_units a_units d_units
  b_units : Binds K d_units ["length", "unit"] []
  m_units : mg "units" = some (.ref a_units)
  a_Piece_fare : Addr
  d_Piece_fare : FuncData
  F_Piece_fare : Fun K "fare" "Piece.fare" s_Piece_fare a_Piece_fare d_Piece_fare
  b_Piece_fare : Binds K d_Piece_fare ["self", "length"] []
  a_raw_pieces : Addr
  d_raw_pieces : FuncData
  F_raw_pieces : Fun K "raw_pieces" "raw_pieces" s_raw_pieces a_raw_pieces d_raw_pieces
  b_raw_pieces : Binds K d_raw_pieces ["book"] []
  m_raw_pieces : mg "raw_pieces" = some (.ref a_raw_pieces)
  a_first_above : Addr
  d_first_above : FuncData
  F_first_above : Fun K "first_above" "first_above" s_first_above a_first_above d_first_above
  b_first_above : Binds K d_first_above ["piece", "least"] []
  m_first_above : mg "first_above" = some (.ref a_first_above)
  a_pieces : Addr
  d_pieces : FuncData
  F_pieces : Fun K "pieces" "pieces" s_pieces a_pieces d_pieces
  b_pieces : Binds K d_pieces ["book"] []
  m_pieces : mg "pieces" = some (.ref a_pieces)
  a_piece_at : Addr
  d_piece_at : FuncData
  F_piece_at : Fun K "piece_at" "piece_at" s_piece_at a_piece_at d_piece_at
  b_piece_at : Binds K d_piece_at ["found", "length"] []
  m_piece_at : mg "piece_at" = some (.ref a_piece_at)
  a_first_between : Addr
  d_first_between : FuncData
  F_first_between : Fun K "first_between" "first_between" s_first_between a_first_between d_first_between
  b_first_between : Binds K d_first_between ["one", "two", "start", "stop"] []
  m_first_between : mg "first_between" = some (.ref a_first_between)
  a_dearer : Addr
  d_dearer : FuncData
  F_dearer : Fun K "dearer" "dearer" s_dearer a_dearer d_dearer
  b_dearer : Binds K d_dearer ["one", "two"] []
  m_dearer : mg "dearer" = some (.ref a_dearer)
  a_first_dearer : Addr
  d_first_dearer : FuncData
  F_first_dearer : Fun K "first_dearer" "first_dearer" s_first_dearer a_first_dearer d_first_dearer
  b_first_dearer : Binds K d_first_dearer ["one", "two"] []
  m_first_dearer : mg "first_dearer" = some (.ref a_first_dearer)
  a_first_unlike : Addr
  d_first_unlike : FuncData
  F_first_unlike : Fun K "first_unlike" "first_unlike" s_first_unlike a_first_unlike d_first_unlike
  b_first_unlike : Binds K d_first_unlike ["one", "two"] []
  m_first_unlike : mg "first_unlike" = some (.ref a_first_unlike)
  a__law_draws : Addr
  d__law_draws : FuncData
  F__law_draws : Fun K "_law_draws" "_law_draws" s__law_draws a__law_draws d__law_draws
  b__law_draws : Binds K d__law_draws ["script"] []
  m__law_draws : mg "_law_draws" = some (.ref a__law_draws)
  a__law_mix : Addr
  d__law_mix : FuncData
  F__law_mix : Fun K "_law_mix" "_law_mix" s__law_mix a__law_mix d__law_mix
  b__law_mix : Binds K d__law_mix ["draws", "k", "many"] []
  m__law_mix : mg "_law_mix" = some (.ref a__law_mix)
  a__law_book : Addr
  d__law_book : FuncData
  F__law_book : Fun K "_law_book" "_law_book" s__law_book a__law_book d__law_book
  b__law_book : Binds K d__law_book ["draws", "first", "kind"] []
  m__law_book : mg "_law_book" = some (.ref a__law_book)
  a__law_turned : Addr
  d__law_turned : FuncData
  F__law_turned : Fun K "_law_turned" "_law_turned" s__law_turned a__law_turned d__law_turned
  b__law_turned : Binds K d__law_turned ["draws", "first", "book"] []
  m__law_turned : mg "_law_turned" = some (.ref a__law_turned)
  a__law_raw : Addr
  d__law_raw : FuncData
  F__law_raw : Fun K "_law_raw" "_law_raw" s__law_raw a__law_raw d__law_raw
  b__law_raw : Binds K d__law_raw ["book", "length"] []
  m__law_raw : mg "_law_raw" = some (.ref a__law_raw)
  a__law_fare : Addr
  d__law_fare : FuncData
  F__law_fare : Fun K "_law_fare" "_law_fare" s__law_fare a__law_fare d__law_fare
  b__law_fare : Binds K d__law_fare ["book", "length"] []
  m__law_fare : mg "_law_fare" = some (.ref a__law_fare)
  a__law_first : Addr
  d__law_first : FuncData
  F__law_first : Fun K "_law_first" "_law_first" s__law_first a__law_first d__law_first
  b__law_first : Binds K d__law_first ["one", "two", "word"] []
  m__law_first : mg "_law_first" = some (.ref a__law_first)
  a__law_is_told : Addr
  d__law_is_told : FuncData
  F__law_is_told : Fun K "_law_is_told" "_law_is_told" s__law_is_told a__law_is_told d__law_is_told
  b__law_is_told : Binds K d__law_is_told ["told", "due", "one", "two", "word"] []
  m__law_is_told : mg "_law_is_told" = some (.ref a__law_is_told)
  a_law : Addr
  d_law : FuncData
  F_law : Fun K "law" "law" s_law a_law d_law
  m_law : mg "law" = some (.ref a_law)
  z_abs : mg "abs" = none
  z_all : mg "all" = none
  z_bool : mg "bool" = none
  z_enumerate : mg "enumerate" = none
  z_int : mg "int" = none
  z_isinstance : mg "isinstance" = none
  z_len : mg "len" = none
  z_list : mg "list" = none
  z_min : mg "min" = none
  z_range : mg "range" = none
  z_repr : mg "repr" = none
  z_sorted : mg "sorted" = none
  z_zip : mg "zip" = none
  k_MOST_BASE : ∃ tk, mg "MOST_BASE" = some (.int 100000 tk)
  k_MOST_CAP : ∃ tk, mg "MOST_CAP" = some (.int 1000000 tk)
  k_MOST_FIRST : ∃ tk, mg "MOST_FIRST" = some (.int 300 tk)
  k_MOST_PRICE : ∃ tk, mg "MOST_PRICE" = some (.int 1000 tk)
  k_MOST_TIERS : ∃ tk, mg "MOST_TIERS" = some (.int 5 tk)
  k_MOST_UNIT : ∃ tk, mg "MOST_UNIT" = some (.int 60 tk)
  i_lcm : mg "lcm" = some (.builtin "math.lcm")
  c_Piece : Cls K (cl 0)
  mk_Piece : Mk K (cl 0) a_Piece___init__
  m_Piece : mg "Piece" = some (.ref (cl 0))
  n_Piece_base : NoAttr K (cl 0) "base"
  n_Piece_first : NoAttr K (cl 0) "first"
  n_Piece_price : NoAttr K (cl 0) "price"
  n_Piece_start : NoAttr K (cl 0) "start"
  n_Piece_stop : NoAttr K (cl 0) "stop"
  n_Piece_unit : NoAttr K (cl 0) "unit"
  e_Piece_fare : Meth K (cl 0) "fare" a_Piece_fare
section
variable {P : Program} {w : World} {K : PySem.W.Frag} {mg : Str → Option Value} {cl : Nat → Addr} {base : Heap}
theorem ok_is_tier (T : Txt K mg cl) : FnOk P w K mg base CX0 1 T.a_is_tier T.d_is_tier ["tier"] (SpP K cl 1 f_is_tier) :=
  ok_pure T.F_is_tier sc_is_tier fz1_ok fun cdv A outer s H E hr => ⟨_,
    (show SdB K cl _ _ _ B_is_tier from (sb_cons (ss_asg (sd_var 0) (sg_tup rfl (sgs_cons (sg_name 1 sc_is_tier.nd) (sgs_cons (sg_name 2 sc_is_tier.nd) (sgs_cons (sg_name 3 sc_is_tier.nd) (sgs_nil))))))
      (sb_one (ss_ret (sd_and (sd_chain op_le op_le ok_le ok_le (sd_int) (sd_var 1) (sd_globI (by rfl) T.k_MOST_FIRST.choose_spec)) (sd_and (sd_chain op_le op_le ok_le ok_le (sd_int) (sd_var 2) (sd_globI (by rfl) T.k_MOST_UNIT.choose_spec)) (sd_one (sd_chain op_le op_le ok_le ok_le (sd_int) (sd_var 3) (sd_globI (by rfl) T.k_MOST_PRICE.choose_spec)))))))))⟩
theorem ok_is_book (T : Txt K mg cl) : FnOk P w K mg base CX0 2 T.a_is_book T.d_is_book ["book"] (SpP K cl 1 f_is_book) :=
  ok_pure T.F_is_book sc_is_book fz1_ok fun cdv A outer s H E hr => ⟨_,
    (show SdB K cl _ _ _ B_is_book from (sb_cons (ss_asg (sd_var 0) (sg_tup rfl (sgs_cons (sg_name 1 sc_is_book.nd) (sgs_cons (sg_name 2 sc_is_book.nd) (sgs_cons (sg_name 3 sc_is_book.nd) (sgs_nil))))))
      (sb_cons (ss_if (SdW.pt (sw_or (st_not (st_chain op_le op_le ok_le ok_le (sd_int) (sd_var 1) (sd_globI (by rfl) T.k_MOST_BASE.choose_spec))) (sw_or (st_not (st_chain op_le op_le ok_le ok_le (sd_int) (sd_callB len_K ok_len (by rfl) T.z_len (by decide +kernel) (sa_cons (sd_var 2) (sa_nil))) (sd_globI (by rfl) T.k_MOST_TIERS.choose_spec))) (sw_or1 (st_not (st_tru (sd_callB all_K ok_all (by rfl) T.z_all (by decide +kernel) (sa_cons (sd_frz (sdl_lc N_is_book (defScope s_is_book) [("tier", 5)] sc_is_book.nd (si_sq (sd_var 2)) (by decide +kernel) (fun _ _ _ _ _ => sg_name 5 sc_is_book.nd) (fun _ _ _ _ _ => sts_nil) (fun _ _ _ _ _ => sd_call (ok_is_tier T) (hr.mono (by decide)) (by rfl) T.m_is_tier T.F_is_tier.kp T.b_is_tier (sa_cons (sd_var 5) (sa_nil)) rfl (len_cons (len_nil))) (by decide))) (sa_nil))))))))) (sb_one (ss_ret (sd_bl))) (sb_nil))
      (sb_cons (ss_setLc N_is_book (defScope s_is_book) [("first", 6), ("_", 7)] (Aa := eFrz) 4 (fun h => EvL.frz h) sc_is_book.nd (si_sq (sd_var 2)) (by decide +kernel) (by decide +kernel) (fun _ _ _ _ _ => sg_tup rfl (sgs_cons (sg_name 6 sc_is_book.nd) (sgs_cons (sg_name 7 sc_is_book.nd) (sgs_cons (sg_name 7 sc_is_book.nd) (sgs_nil))))) (fun _ _ _ _ _ => sts_nil) (fun _ _ _ _ _ => sd_var 6) (by decide))
      (sb_cons (ss_if (SdW.pt (sw_or (st_cmp op_ne ok_ne (sd_ix ix_K ok_ix (sd_var 4) (sd_int)) (sd_int) (nomark _)) (sw_or1 (st_not (st_tru (sd_callB all_K ok_all (by rfl) T.z_all (by decide +kernel) (sa_cons (sd_frz (sdl_lc N_is_book (defScope s_is_book) [("one", 8), ("two", 9)] sc_is_book.nd (si_zip (sa_cons (sd_var 4) (sa_cons (sd_frz (sdl_slice (sd_var 4) (so_some (sd_int)) (so_none))) (sa_nil))) (by rfl) T.z_zip) (by decide +kernel) (fun _ _ _ _ _ => sg_tup rfl (sgs_cons (sg_name 8 sc_is_book.nd) (sgs_cons (sg_name 9 sc_is_book.nd) (sgs_nil)))) (fun _ _ _ _ _ => sts_nil) (fun _ _ _ _ _ => sd_cmp op_lt ok_lt (sd_var 8) (sd_var 9) (nomark _)) (by decide))) (sa_nil)))))))) (sb_one (ss_ret (sd_bl))) (sb_nil))
      (sb_one (ss_ret (sd_or (sd_cmp op_isN ok_isN (sd_var 3) (sd_non) (nomark _)) (sd_one (sd_chain op_le op_le ok_le ok_le (sd_int) (sd_var 3) (sd_globI (by rfl) T.k_MOST_CAP.choose_spec)))))))))))⟩
theorem ok_check_books (T : Txt K mg cl) : FnOk P w K mg base CX0 3 T.a_check_books T.d_check_books ["books"] (SpP K cl 1 f_check_books) :=
  ok_pure T.F_check_books sc_check_books fz1_ok fun cdv A outer s H E hr => ⟨_,
    (show SdB K cl _ _ _ B_check_books from (sb_one (ss_for PassesOwn.never rfl (si_enum (sa_cons (sd_var 0) (sa_nil)) (by rfl) T.z_enumerate) (sg_tup rfl (sgs_cons (sg_name 1 sc_check_books.nd) (sgs_cons (sg_name 2 sc_check_books.nd) (sgs_nil)))) (sb_one (ss_if (st_not (st_tru (sd_call (ok_is_book T) (hr.mono (by decide)) (by rfl) T.m_is_book T.F_is_book.kp T.b_is_book (sa_cons (sd_var 2) (sa_nil)) rfl (len_cons (len_nil))))) (sb_one (ss_never)) (sb_nil))))))⟩
theorem ok_Piece___init__ (T : Txt K mg cl) : FnOk P w K mg base CX0 1 T.a_Piece___init__ T.d_Piece___init__ ["self", "start", "stop", "base", "tier"] (SpI K cl 5 0 f_Piece___init__) :=
  ok_init 0 T.F_Piece___init__ sc_Piece___init__ fun cdv A outer s H E hr => ⟨_,
    (show SdB K cl _ _ _ B_Piece___init__ from (sb_cons (ss_fld 0 T.c_Piece T.n_Piece_start (sd_var 0) (sd_var 1))
      (sb_cons (ss_fld 0 T.c_Piece T.n_Piece_stop (sd_var 0) (sd_var 2))
      (sb_cons (ss_fld 0 T.c_Piece T.n_Piece_base (sd_var 0) (sd_var 3))
      (sb_one (ss_asg (sd_var 4) (sg_tup rfl (sgs_cons (sg_fld 0 T.c_Piece T.n_Piece_first (sd_var 0)) (sgs_cons (sg_fld 0 T.c_Piece T.n_Piece_unit (sd_var 0)) (sgs_cons (sg_fld 0 T.c_Piece T.n_Piece_price (sd_var 0)) (sgs_nil)))))))))))⟩
theorem ok_units (T : Txt K mg cl) : FnOk P w K mg base CX0 1 T.a_units T.d_units ["length", "unit"] (SpP K cl 2 f_units) :=
  ok_pure T.F_units sc_units fz1_ok fun cdv A outer s H E hr => ⟨_,
    (show SdB K cl _ _ _ B_units from (sb_one (ss_ret (sd_un un_neg ok_neg (sd_bin op_fdivN ok_fdiv (sd_un un_neg ok_neg (sd_var 0)) (sd_var 1))))))⟩
theorem ok_Piece_fare (T : Txt K mg cl) : FnOk P w K mg base CX0 2 T.a_Piece_fare T.d_Piece_fare ["self", "length"] (SpP K cl 2 f_Piece_fare) :=
  ok_pure T.F_Piece_fare sc_Piece_fare fz1_ok fun cdv A outer s H E hr => ⟨_,
    (show SdB K cl _ _ _ B_Piece_fare from (sb_one (ss_ret (sd_bin op_addA ok_add (sd_fld 0 T.c_Piece T.n_Piece_base (sd_var 0)) (sd_bin op_mul ok_mul (sd_fld 0 T.c_Piece T.n_Piece_price (sd_var 0)) (sd_call (ok_units T) (hr.mono (by decide)) (by rfl) T.m_units T.F_units.kp T.b_units (sa_cons (sd_bin op_sub ok_sub (sd_var 1) (sd_fld 0 T.c_Piece T.n_Piece_first (sd_var 0))) (sa_cons (sd_fld 0 T.c_Piece T.n_Piece_unit (sd_var 0)) (sa_nil))) rfl (len_cons (len_cons (len_nil)))))))))⟩
theorem ok_raw_pieces (T : Txt K mg cl) : FnOk P w K mg base CX0 3 T.a_raw_pieces T.d_raw_pieces ["book"] (SpP K cl 1 f_raw_pieces) :=
  ok_pure T.F_raw_pieces sc_raw_pieces fz1_ok fun cdv A outer s H E hr => ⟨_,
    (show SdB K cl _ _ _ B_raw_pieces from (sb_cons (ss_asg (sd_var 0) (sg_tup rfl (sgs_cons (sg_name 1 sc_raw_pieces.nd) (sgs_cons (sg_name 2 sc_raw_pieces.nd) (sgs_cons (sg_name 3 sc_raw_pieces.nd) (sgs_nil))))))
      (sb_cons (ss_set 4 sc_raw_pieces.nd (sd_mlt (sdl_lst (sa_cons (sd_make 0 T.mk_Piece (ok_Piece___init__ T) (hr.mono (by decide)) (by rfl) T.m_Piece T.b_Piece___init__ (sa_cons (sd_int) (sa_cons (sd_int) (sa_cons (sd_var 1) (sa_cons (sd_tup (sa_cons (sd_int) (sa_cons (sd_int) (sa_cons (sd_int) (sa_nil))))) (sa_nil))))) rfl (len_cons (len_cons (len_cons (len_cons (len_nil)))))) (sa_nil)))))
      (sb_cons (ss_for PassesOwn.never rfl (si_enum (sa_cons (sd_var 2) (sa_nil)) (by rfl) T.z_enumerate) (sg_tup rfl (sgs_cons (sg_name 5 sc_raw_pieces.nd) (sgs_cons (sg_name 6 sc_raw_pieces.nd) (sgs_nil)))) (sb_cons (ss_set 7 sc_raw_pieces.nd (sd_non))
      (sb_cons (ss_if (st_cmp op_lt ok_lt (sd_bin op_addA ok_add (sd_var 5) (sd_int)) (sd_callB len_K ok_len (by rfl) T.z_len (by decide +kernel) (sa_cons (sd_var 2) (sa_nil))) (nomark _)) (sb_one (ss_set 7 sc_raw_pieces.nd (sd_ix ix_K ok_ix (sd_ix ix_K ok_ix (sd_var 2) (sd_bin op_addA ok_add (sd_var 5) (sd_int))) (sd_int)))) (sb_nil))
      (sb_cons (ss_set 8 sc_raw_pieces.nd (sd_make 0 T.mk_Piece (ok_Piece___init__ T) (hr.mono (by decide)) (by rfl) T.m_Piece T.b_Piece___init__ (sa_cons (sd_bin op_addA ok_add (sd_ix ix_K ok_ix (sd_var 6) (sd_int)) (sd_int)) (sa_cons (sd_var 7) (sa_cons (sd_var 1) (sa_cons (sd_var 6) (sa_nil))))) rfl (len_cons (len_cons (len_cons (len_cons (len_nil)))))))
      (sb_cons (ss_expr (sd_app (sd_var 4) (sd_var 8)))
      (sb_one (ss_if (st_cmp op_notN ok_notN (sd_var 7) (sd_non) (nomark _)) (sb_one (ss_set 1 sc_raw_pieces.nd (sd_meth 0 (sd_var 8) T.c_Piece T.e_Piece_fare (ok_Piece_fare T) (hr.mono (by decide)) T.b_Piece_fare (sa_cons (sd_var 7) (sa_nil)) rfl (len_cons (len_nil))))) (sb_nil))))))))
      (sb_frz 4 (sb_one (ss_ret (sd_var 4))))))))⟩
theorem ok_first_above (T : Txt K mg cl) : FnOk P w K mg base CX0 3 T.a_first_above T.d_first_above ["piece", "least"] (SpP K cl 2 f_first_above) :=
  ok_pure T.F_first_above sc_first_above fz1_ok fun cdv A outer s H E hr => ⟨_,
    (show SdB K cl _ _ _ B_first_above from (sb_cons (ss_set 2 sc_first_above.nd (sd_fld 0 T.c_Piece T.n_Piece_start (sd_var 0)))
      (sb_cons (ss_if (st_cmp op_lt ok_lt (sd_meth 0 (sd_var 0) T.c_Piece T.e_Piece_fare (ok_Piece_fare T) (hr.mono (by decide)) T.b_Piece_fare (sa_cons (sd_var 2) (sa_nil)) rfl (len_cons (len_nil))) (sd_var 1) (nomark _)) (sb_cons (ss_if (st_cmp op_eq ok_eq (sd_fld 0 T.c_Piece T.n_Piece_price (sd_var 0)) (sd_int) (nomark _)) (sb_one (ss_ret (sd_non))) (sb_nil))
      (sb_one (ss_set 2 sc_first_above.nd (sd_bin op_addA ok_add (sd_bin op_addA ok_add (sd_fld 0 T.c_Piece T.n_Piece_first (sd_var 0)) (sd_bin op_mul ok_mul (sd_bin op_sub ok_sub (sd_call (ok_units T) (hr.mono (by decide)) (by rfl) T.m_units T.F_units.kp T.b_units (sa_cons (sd_bin op_sub ok_sub (sd_var 1) (sd_fld 0 T.c_Piece T.n_Piece_base (sd_var 0))) (sa_cons (sd_fld 0 T.c_Piece T.n_Piece_price (sd_var 0)) (sa_nil))) rfl (len_cons (len_cons (len_nil)))) (sd_int)) (sd_fld 0 T.c_Piece T.n_Piece_unit (sd_var 0)))) (sd_int))))) (sb_nil))
      (sb_cons (ss_if (SdW.pt (sw_and (st_cmp op_notN ok_notN (sd_fld 0 T.c_Piece T.n_Piece_stop (sd_var 0)) (sd_non) (nomark _)) (sw_and1 (st_cmp op_gt ok_gt (sd_var 2) (sd_fld 0 T.c_Piece T.n_Piece_stop (sd_var 0)) (nomark _))))) (sb_one (ss_ret (sd_non))) (sb_nil))
      (sb_one (ss_ret (sd_var 2)))))))⟩
theorem ok_pieces (T : Txt K mg cl) : FnOk P w K mg base CX0 4 T.a_pieces T.d_pieces ["book"] (SpP K cl 1 f_pieces) :=
  ok_pure T.F_pieces sc_pieces fz1_ok fun cdv A outer s H E hr => ⟨_,
    (show SdB K cl _ _ _ B_pieces from (sb_cons (ss_set 1 sc_pieces.nd (sd_ix ix_K ok_ix (sd_var 0) (sd_int)))
      (sb_cons (ss_set 2 sc_pieces.nd (sd_mlt (sdl_lst (sa_nil))))
      (sb_cons (ss_for PassesOwn.never rfl (si_sq (sd_call (ok_raw_pieces T) (hr.mono (by decide)) (by rfl) T.m_raw_pieces T.F_raw_pieces.kp T.b_raw_pieces (sa_cons (sd_var 0) (sa_nil)) rfl (len_cons (len_nil)))) (sg_name 3 sc_pieces.nd) (sb_cons (ss_set 4 sc_pieces.nd (sd_non))
      (sb_cons (ss_if (st_cmp op_notN ok_notN (sd_var 1) (sd_non) (nomark _)) (sb_one (ss_set 4 sc_pieces.nd (sd_call (ok_first_above T) (hr.mono (by decide)) (by rfl) T.m_first_above T.F_first_above.kp T.b_first_above (sa_cons (sd_var 3) (sa_cons (sd_var 1) (sa_nil))) rfl (len_cons (len_cons (len_nil)))))) (sb_nil))
      (sb_cons (ss_if (st_cmp op_notN ok_notN (sd_var 4) (sd_non) (nomark _)) (sb_cons (ss_if (st_cmp op_gt ok_gt (sd_var 4) (sd_fld 0 T.c_Piece T.n_Piece_start (sd_var 3)) (nomark _)) (sb_one (ss_expr (sd_app (sd_var 2) (sd_make 0 T.mk_Piece (ok_Piece___init__ T) (hr.mono (by decide)) (by rfl) T.m_Piece T.b_Piece___init__ (sa_cons (sd_fld 0 T.c_Piece T.n_Piece_start (sd_var 3)) (sa_cons (sd_bin op_sub ok_sub (sd_var 4) (sd_int)) (sa_cons (sd_fld 0 T.c_Piece T.n_Piece_base (sd_var 3)) (sa_cons (sd_tup (sa_cons (sd_fld 0 T.c_Piece T.n_Piece_first (sd_var 3)) (sa_cons (sd_fld 0 T.c_Piece T.n_Piece_unit (sd_var 3)) (sa_cons (sd_fld 0 T.c_Piece T.n_Piece_price (sd_var 3)) (sa_nil))))) (sa_nil))))) rfl (len_cons (len_cons (len_cons (len_cons (len_nil))))))))) (sb_nil))
      (sb_cons (ss_expr (sd_app (sd_var 2) (sd_make 0 T.mk_Piece (ok_Piece___init__ T) (hr.mono (by decide)) (by rfl) T.m_Piece T.b_Piece___init__ (sa_cons (sd_var 4) (sa_cons (sd_non) (sa_cons (sd_var 1) (sa_cons (sd_tup (sa_cons (sd_int) (sa_cons (sd_int) (sa_cons (sd_int) (sa_nil))))) (sa_nil))))) rfl (len_cons (len_cons (len_cons (len_cons (len_nil))))))))
      (sb_one (ss_ret (sd_var 2))))) (sb_nil))
      (sb_one (ss_expr (sd_app (sd_var 2) (sd_var 3))))))))
      (sb_frz 2 (sb_one (ss_ret (sd_var 2))))))))⟩
theorem ok_piece_at (T : Txt K mg cl) : FnOk P w K mg base CX0 1 T.a_piece_at T.d_piece_at ["found", "length"] (SpP K cl 2 f_piece_at) :=
  ok_pure T.F_piece_at sc_piece_at fz1_ok fun cdv A outer s H E hr => ⟨_,
    (show SdB K cl _ _ _ B_piece_at from (sb_one (ss_ret (sd_ix ix_K ok_ix (sd_frz (sdl_lc N_piece_at (defScope s_piece_at) [("piece", 2)] sc_piece_at.nd (si_sq (sd_var 0)) (by decide +kernel) (fun _ _ _ _ _ => sg_name 2 sc_piece_at.nd) (fun _ _ _ _ _ => sts_one (st_cmp op_le ok_le (sd_fld 0 T.c_Piece T.n_Piece_start (sd_var 2)) (sd_var 1) (nomark _))) (fun _ _ _ _ _ => sd_var 2) (by decide))) (sd_un un_neg ok_neg (sd_int))))))⟩
theorem ok_first_between (T : Txt K mg cl) : FnOk P w K mg base CX0 3 T.a_first_between T.d_first_between ["one", "two", "start", "stop"] (SpP K cl 4 f_first_between) :=
  ok_pure T.F_first_between sc_first_between fz1_ok fun cdv A outer s H E hr => ⟨_,
    (show SdB K cl _ _ _ B_first_between from (sb_cons (ss_set 4 sc_first_between.nd (sd_callG cr_lcm ok_lcm (by rfl) T.i_lcm (sa_cons (sd_fld 0 T.c_Piece T.n_Piece_unit (sd_var 0)) (sa_cons (sd_fld 0 T.c_Piece T.n_Piece_unit (sd_var 1)) (sa_nil)))))
      (sb_cons (ss_set 5 sc_first_between.nd (sd_bin op_sub ok_sub (sd_bin op_addA ok_add (sd_var 2) (sd_var 4)) (sd_int)))
      (sb_cons (ss_if (SdW.pt (sw_and (st_cmp op_notN ok_notN (sd_var 3) (sd_non) (nomark _)) (sw_and1 (st_cmp op_lt ok_lt (sd_var 3) (sd_var 5) (nomark _))))) (sb_one (ss_set 5 sc_first_between.nd (sd_var 3))) (sb_nil))
      (sb_cons (ss_set 6 sc_first_between.nd (sd_bin op_sub ok_sub (sd_bin op_mul ok_mul (sd_fld 0 T.c_Piece T.n_Piece_price (sd_var 0)) (sd_bin op_fdivN ok_fdiv (sd_var 4) (sd_fld 0 T.c_Piece T.n_Piece_unit (sd_var 0)))) (sd_bin op_mul ok_mul (sd_fld 0 T.c_Piece T.n_Piece_price (sd_var 1)) (sd_bin op_fdivN ok_fdiv (sd_var 4) (sd_fld 0 T.c_Piece T.n_Piece_unit (sd_var 1))))))
      (sb_cons (ss_set 7 sc_first_between.nd (sd_mlt (sdl_lst (sa_nil))))
      (sb_cons (ss_for PassesOwn.never rfl (si_r2 (sa_cons (sd_var 2) (sa_cons (sd_bin op_addA ok_add (sd_var 5) (sd_int)) (sa_nil))) (by rfl) T.z_range) (sg_name 8 sc_first_between.nd) (sb_cons (ss_set 9 sc_first_between.nd (sd_bin op_sub ok_sub (sd_meth 0 (sd_var 0) T.c_Piece T.e_Piece_fare (ok_Piece_fare T) (hr.mono (by decide)) T.b_Piece_fare (sa_cons (sd_var 8) (sa_nil)) rfl (len_cons (len_nil))) (sd_meth 0 (sd_var 1) T.c_Piece T.e_Piece_fare (ok_Piece_fare T) (hr.mono (by decide)) T.b_Piece_fare (sa_cons (sd_var 8) (sa_nil)) rfl (len_cons (len_nil)))))
      (sb_cons (ss_if (st_cmp op_gt ok_gt (sd_var 9) (sd_int) (nomark _)) (sb_one (ss_ret (sd_var 8))) (sb_nil))
      (sb_one (ss_if (st_cmp op_gt ok_gt (sd_var 6) (sd_int) (nomark _)) (sb_one (ss_expr (sd_app (sd_var 7) (sd_bin op_addA ok_add (sd_var 8) (sd_bin op_mul ok_mul (sd_var 4) (sd_bin op_addA ok_add (sd_bin op_fdivN ok_fdiv (sd_un un_neg ok_neg (sd_var 9)) (sd_var 6)) (sd_int))))))) (sb_nil))))))
      (sb_frz 7 (sb_cons (ss_setLc N_first_between (defScope s_first_between) [("length", 8)] (Aa := eMlt) 7 (fun h => EvL.mlt h) sc_first_between.nd (si_sq (sd_var 7)) (by decide +kernel) (by decide +kernel) (fun _ _ _ _ _ => sg_name 8 sc_first_between.nd) (fun _ _ _ _ _ => sts_one (SdW.pt (sw_or (st_cmp op_isN ok_isN (sd_var 3) (sd_non) (nomark _)) (sw_or1 (st_cmp op_le ok_le (sd_var 8) (sd_var 3) (nomark _)))))) (fun _ _ _ _ _ => sd_var 8) (by decide))
      (sb_frz 7 (sb_cons (ss_if (st_cmp op_eq ok_eq (sd_callB len_K ok_len (by rfl) T.z_len (by decide +kernel) (sa_cons (sd_var 7) (sa_nil))) (sd_int) (nomark _)) (sb_one (ss_ret (sd_non))) (sb_nil))
      (sb_frz 7 (sb_one (ss_ret (sd_callB min_K ok_minL (by rfl) T.z_min (by decide +kernel) (sa_cons (sd_var 7) (sa_nil)))))))))))))))))⟩
theorem ok_dearer (T : Txt K mg cl) : FnOk P w K mg base CX0 5 T.a_dearer T.d_dearer ["one", "two"] (SpP K cl 2 f_dearer) :=
  ok_pure T.F_dearer sc_dearer fz1_ok fun cdv A outer s H E hr => ⟨_,
    (show SdB K cl _ _ _ B_dearer from (sb_cons (ss_set 2 sc_dearer.nd (sd_call (ok_pieces T) (hr.mono (by decide)) (by rfl) T.m_pieces T.F_pieces.kp T.b_pieces (sa_cons (sd_var 0) (sa_nil)) rfl (len_cons (len_nil))))
      (sb_cons (ss_set 3 sc_dearer.nd (sd_call (ok_pieces T) (hr.mono (by decide)) (by rfl) T.m_pieces T.F_pieces.kp T.b_pieces (sa_cons (sd_var 1) (sa_nil)) rfl (len_cons (len_nil))))
      (sb_cons (ss_set 4 sc_dearer.nd (sd_frz (sdl_srtSet N_dearer (defScope s_dearer) [("piece", 9)] (by rfl) T.z_sorted sc_dearer.nd (si_sq (sd_frz (sdl_lst (sa_star (sd_var 2) (sa_star (sd_var 3) (sa_nil)))))) (by decide +kernel) (fun _ _ _ _ _ => sg_name 9 sc_dearer.nd) (fun _ _ _ _ _ => sts_nil) (fun _ _ _ _ _ => sd_fld 0 T.c_Piece T.n_Piece_start (sd_var 9)) (by decide))))
      (sb_cons (ss_for PassesOwn.never rfl (si_enum (sa_cons (sd_var 4) (sa_nil)) (by rfl) T.z_enumerate) (sg_tup rfl (sgs_cons (sg_name 5 sc_dearer.nd) (sgs_cons (sg_name 6 sc_dearer.nd) (sgs_nil)))) (sb_cons (ss_set 7 sc_dearer.nd (sd_non))
      (sb_cons (ss_if (st_cmp op_lt ok_lt (sd_bin op_addA ok_add (sd_var 5) (sd_int)) (sd_callB len_K ok_len (by rfl) T.z_len (by decide +kernel) (sa_cons (sd_var 4) (sa_nil))) (nomark _)) (sb_one (ss_set 7 sc_dearer.nd (sd_bin op_sub ok_sub (sd_ix ix_K ok_ix (sd_var 4) (sd_bin op_addA ok_add (sd_var 5) (sd_int))) (sd_int)))) (sb_nil))
      (sb_cons (ss_set 8 sc_dearer.nd (sd_call (ok_first_between T) (hr.mono (by decide)) (by rfl) T.m_first_between T.F_first_between.kp T.b_first_between (sa_cons (sd_call (ok_piece_at T) (hr.mono (by decide)) (by rfl) T.m_piece_at T.F_piece_at.kp T.b_piece_at (sa_cons (sd_var 2) (sa_cons (sd_var 6) (sa_nil))) rfl (len_cons (len_cons (len_nil)))) (sa_cons (sd_call (ok_piece_at T) (hr.mono (by decide)) (by rfl) T.m_piece_at T.F_piece_at.kp T.b_piece_at (sa_cons (sd_var 3) (sa_cons (sd_var 6) (sa_nil))) rfl (len_cons (len_cons (len_nil)))) (sa_cons (sd_var 6) (sa_cons (sd_var 7) (sa_nil))))) rfl (len_cons (len_cons (len_cons (len_cons (len_nil)))))))
      (sb_one (ss_if (st_cmp op_notN ok_notN (sd_var 8) (sd_non) (nomark _)) (sb_one (ss_ret (sd_var 8))) (sb_nil)))))))
      (sb_one (ss_ret (sd_non))))))))⟩
theorem ok_first_dearer (T : Txt K mg cl) : FnOk P w K mg base CX0 6 T.a_first_dearer T.d_first_dearer ["one", "two"] (SpP K cl 2 f_first_dearer) :=
  ok_pure T.F_first_dearer sc_first_dearer fz1_ok fun cdv A outer s H E hr => ⟨_,
    (show SdB K cl _ _ _ B_first_dearer from (sb_cons (ss_expr (sd_call (ok_check_books T) (hr.mono (by decide)) (by rfl) T.m_check_books T.F_check_books.kp T.b_check_books (sa_cons (sd_frz (sdl_lst (sa_cons (sd_var 0) (sa_cons (sd_var 1) (sa_nil))))) (sa_nil)) rfl (len_cons (len_nil))))
      (sb_one (ss_ret (sd_call (ok_dearer T) (hr.mono (by decide)) (by rfl) T.m_dearer T.F_dearer.kp T.b_dearer (sa_cons (sd_var 0) (sa_cons (sd_var 1) (sa_nil))) rfl (len_cons (len_cons (len_nil))))))))⟩
theorem ok_first_unlike (T : Txt K mg cl) : FnOk P w K mg base CX0 6 T.a_first_unlike T.d_first_unlike ["one", "two"] (SpP K cl 2 f_first_unlike) :=
  ok_pure T.F_first_unlike sc_first_unlike fz1_ok fun cdv A outer s H E hr => ⟨_,
    (show SdB K cl _ _ _ B_first_unlike from (sb_cons (ss_expr (sd_call (ok_check_books T) (hr.mono (by decide)) (by rfl) T.m_check_books T.F_check_books.kp T.b_check_books (sa_cons (sd_frz (sdl_lst (sa_cons (sd_var 0) (sa_cons (sd_var 1) (sa_nil))))) (sa_nil)) rfl (len_cons (len_nil))))
      (sb_cons (ss_setLc N_first_unlike (defScope s_first_unlike) [("length", 3)] (Aa := eFrz) 2 (fun h => EvL.frz h) sc_first_unlike.nd (si_sq (sd_frz (sdl_lst (sa_cons (sd_call (ok_dearer T) (hr.mono (by decide)) (by rfl) T.m_dearer T.F_dearer.kp T.b_dearer (sa_cons (sd_var 0) (sa_cons (sd_var 1) (sa_nil))) rfl (len_cons (len_cons (len_nil)))) (sa_cons (sd_call (ok_dearer T) (hr.mono (by decide)) (by rfl) T.m_dearer T.F_dearer.kp T.b_dearer (sa_cons (sd_var 1) (sa_cons (sd_var 0) (sa_nil))) rfl (len_cons (len_cons (len_nil)))) (sa_nil)))))) (by decide +kernel) (by decide +kernel) (fun _ _ _ _ _ => sg_name 3 sc_first_unlike.nd) (fun _ _ _ _ _ => sts_one (st_cmp op_notN ok_notN (sd_var 3) (sd_non) (nomark _))) (fun _ _ _ _ _ => sd_var 3) (by decide))
      (sb_cons (ss_if (st_cmp op_eq ok_eq (sd_callB len_K ok_len (by rfl) T.z_len (by decide +kernel) (sa_cons (sd_var 2) (sa_nil))) (sd_int) (nomark _)) (sb_one (ss_ret (sd_non))) (sb_nil))
      (sb_one (ss_ret (sd_callB min_K ok_minL (by rfl) T.z_min (by decide +kernel) (sa_cons (sd_var 2) (sa_nil)))))))))⟩
theorem ok__law_draws (T : Txt K mg cl) : FnOk P w K mg base CX0 1 T.a__law_draws T.d__law_draws ["script"] (SpP K cl 1 f__law_draws) :=
  ok_pure T.F__law_draws sc__law_draws fz1_ok fun cdv A outer s H E hr => ⟨_,
    (show SdB K cl _ _ _ B__law_draws from (sb_cons (ss_set 1 sc__law_draws.nd (sd_mlt (sdl_lst (sa_nil))))
      (sb_cons (ss_for PassesOwn.never rfl (si_r1 (sa_cons (sd_callB (call_min2 rfl) ok_min2 (by rfl) T.z_min (by decide +kernel) (sa_cons (sd_int) (sa_cons (sd_callB len_K ok_len (by rfl) T.z_len (by decide +kernel) (sa_cons (sd_var 0) (sa_nil))) (sa_nil)))) (sa_nil)) (by rfl) T.z_range) (sg_name 2 sc__law_draws.nd) (sb_cons (ss_set 3 sc__law_draws.nd (sd_callB call_abs ok_abs (by rfl) T.z_abs (by decide +kernel) (sa_cons (sd_ix ix_K ok_ix (sd_var 0) (sd_var 2)) (sa_nil))))
      (sb_one (ss_if (st_cmp op_ge ok_ge (sd_var 3) (sd_bin op_pow ok_pow (sd_int) (sd_int)) (nomark _)) (sb_one (ss_for PassesOwn.never rfl (si_r1 (sa_cons (sd_int) (sa_nil)) (by rfl) T.z_range) (sg_name 4 sc__law_draws.nd) (sb_one (ss_if (st_cmp op_gt ok_gt (sd_var 3) (sd_int) (nomark _)) (sb_cons (ss_expr (sd_app (sd_var 1) (sd_bin op_modN ok_mod (sd_callTy call_int1 ok_int (by rfl) T.z_int (by decide +kernel) (sa_cons (sd_var 3) (sa_nil))) (sd_int))))
      (sb_one (ss_set 3 sc__law_draws.nd (sd_bin op_fdivN ok_fdiv (sd_var 3) (sd_int))))) (sb_nil))))) (sb_cons (ss_set 5 sc__law_draws.nd (sd_bin op_modN ok_mod (sd_callTy call_int1 ok_int (by rfl) T.z_int (by decide +kernel) (sa_cons (sd_bin op_addA ok_add (sd_bin op_mul ok_mul (sd_var 3) (sd_int)) (sd_bin op_mul ok_mul (sd_bin op_addA ok_add (sd_var 2) (sd_int)) (sd_int))) (sa_nil))) (sd_int)))
      (sb_cons (ss_set 5 sc__law_draws.nd (sd_bin op_modN ok_mod (sd_callTy call_int1 ok_int (by rfl) T.z_int (by decide +kernel) (sa_cons (sd_bin op_addA ok_add (sd_bin op_addA ok_add (sd_bin op_mul ok_mul (sd_var 5) (sd_int)) (sd_bin op_mul ok_mul (sd_int) (sd_var 2))) (sd_int)) (sa_nil))) (sd_int)))
      (sb_cons (ss_expr (sd_app (sd_var 1) (sd_bin op_modN ok_mod (sd_callTy call_int1 ok_int (by rfl) T.z_int (by decide +kernel) (sa_cons (sd_var 5) (sa_nil))) (sd_int))))
      (sb_one (ss_expr (sd_app (sd_var 1) (sd_bin op_modN ok_mod (sd_callTy call_int1 ok_int (by rfl) T.z_int (by decide +kernel) (sa_cons (sd_bin op_fdivN ok_fdiv (sd_var 5) (sd_int)) (sa_nil))) (sd_int))))))))))))
      (sb_frz 1 (sb_one (ss_ret (sd_var 1)))))))⟩
theorem ok__law_mix (T : Txt K mg cl) : FnOk P w K mg base CX0 1 T.a__law_mix T.d__law_mix ["draws", "k", "many"] (SpP K cl 3 f__law_mix) :=
  ok_pure T.F__law_mix sc__law_mix fz1_ok fun cdv A outer s H E hr => ⟨_,
    (show SdB K cl _ _ _ B__law_mix from (sb_cons (ss_set 3 sc__law_mix.nd (sd_int))
      (sb_cons (ss_if (st_cmp op_gt ok_gt (sd_callB len_K ok_len (by rfl) T.z_len (by decide +kernel) (sa_cons (sd_var 0) (sa_nil))) (sd_int) (nomark _)) (sb_one (ss_set 3 sc__law_mix.nd (sd_ix ix_K ok_ix (sd_var 0) (sd_bin op_modN ok_mod (sd_callTy call_int1 ok_int (by rfl) T.z_int (by decide +kernel) (sa_cons (sd_var 1) (sa_nil))) (sd_callB len_K ok_len (by rfl) T.z_len (by decide +kernel) (sa_cons (sd_var 0) (sa_nil))))))) (sb_nil))
      (sb_cons (ss_if (st_cmp op_lt ok_lt (sd_var 1) (sd_callB len_K ok_len (by rfl) T.z_len (by decide +kernel) (sa_cons (sd_var 0) (sa_nil))) (nomark _)) (sb_one (ss_ret (sd_bin op_modN ok_mod (sd_callTy call_int1 ok_int (by rfl) T.z_int (by decide +kernel) (sa_cons (sd_var 3) (sa_nil))) (sd_var 2)))) (sb_nil))
      (sb_one (ss_ret (sd_bin op_modN ok_mod (sd_callTy call_int1 ok_int (by rfl) T.z_int (by decide +kernel) (sa_cons (sd_bin op_fdivN ok_fdiv (sd_callTy call_int1 ok_int (by rfl) T.z_int (by decide +kernel) (sa_cons (sd_bin op_addA ok_add (sd_bin op_mul ok_mul (sd_var 3) (sd_int)) (sd_bin op_mul ok_mul (sd_var 1) (sd_int))) (sa_nil))) (sd_int)) (sa_nil))) (sd_var 2))))))))⟩
theorem ok__law_book (T : Txt K mg cl) : FnOk P w K mg base CX0 2 T.a__law_book T.d__law_book ["draws", "first", "kind"] (SpP K cl 3 f__law_book) :=
  ok_pure T.F__law_book sc__law_book fz1_ok fun cdv A outer s H E hr => ⟨_,
    (show SdB K cl _ _ _ B__law_book from (sb_cons (ss_set 3 sc__law_book.nd (sd_call (ok__law_mix T) (hr.mono (by decide)) (by rfl) T.m__law_mix T.F__law_mix.kp T.b__law_mix (sa_cons (sd_var 0) (sa_cons (sd_var 1) (sa_cons (sd_ix ix_K ok_ix (sd_frz (sdl_lst (sa_cons (sd_int) (sa_cons (sd_int) (sa_cons (sd_int) (sa_nil)))))) (sd_var 2)) (sa_nil)))) rfl (len_cons (len_cons (len_cons (len_nil))))))
      (sb_cons (ss_set 4 sc__law_book.nd (sd_mlt (sdl_lst (sa_nil))))
      (sb_cons (ss_set 5 sc__law_book.nd (sd_int))
      (sb_cons (ss_for PassesOwn.never rfl (si_r1 (sa_cons (sd_bin op_addA ok_add (sd_int) (sd_call (ok__law_mix T) (hr.mono (by decide)) (by rfl) T.m__law_mix T.F__law_mix.kp T.b__law_mix (sa_cons (sd_var 0) (sa_cons (sd_bin op_addA ok_add (sd_var 1) (sd_int)) (sa_cons (sd_ix ix_K ok_ix (sd_frz (sdl_lst (sa_cons (sd_int) (sa_cons (sd_int) (sa_cons (sd_int) (sa_nil)))))) (sd_var 2)) (sa_nil)))) rfl (len_cons (len_cons (len_cons (len_nil)))))) (sa_nil)) (by rfl) T.z_range) (sg_name 6 sc__law_book.nd) (sb_cons (ss_set 7 sc__law_book.nd (sd_bin op_addA ok_add (sd_bin op_addA ok_add (sd_var 1) (sd_int)) (sd_bin op_mul ok_mul (sd_int) (sd_var 6))))
      (sb_cons (ss_set 8 sc__law_book.nd (sd_bin op_addA ok_add (sd_int) (sd_call (ok__law_mix T) (hr.mono (by decide)) (by rfl) T.m__law_mix T.F__law_mix.kp T.b__law_mix (sa_cons (sd_var 0) (sa_cons (sd_var 7) (sa_cons (sd_ix ix_K ok_ix (sd_frz (sdl_lst (sa_cons (sd_int) (sa_cons (sd_int) (sa_cons (sd_int) (sa_nil)))))) (sd_var 2)) (sa_nil)))) rfl (len_cons (len_cons (len_cons (len_nil)))))))
      (sb_cons (ss_expr (sd_app (sd_var 4) (sd_tup (sa_cons (sd_var 5) (sa_cons (sd_var 8) (sa_cons (sd_call (ok__law_mix T) (hr.mono (by decide)) (by rfl) T.m__law_mix T.F__law_mix.kp T.b__law_mix (sa_cons (sd_var 0) (sa_cons (sd_bin op_addA ok_add (sd_var 7) (sd_int)) (sa_cons (sd_ix ix_K ok_ix (sd_frz (sdl_lst (sa_cons (sd_int) (sa_cons (sd_int) (sa_cons (sd_int) (sa_nil)))))) (sd_var 2)) (sa_nil)))) rfl (len_cons (len_cons (len_cons (len_nil))))) (sa_nil)))))))
      (sb_one (ss_set 5 sc__law_book.nd (sd_bin op_addA ok_add (sd_bin op_addA ok_add (sd_var 5) (sd_int)) (sd_call (ok__law_mix T) (hr.mono (by decide)) (by rfl) T.m__law_mix T.F__law_mix.kp T.b__law_mix (sa_cons (sd_var 0) (sa_cons (sd_bin op_addA ok_add (sd_var 7) (sd_int)) (sa_cons (sd_ix ix_K ok_ix (sd_frz (sdl_lst (sa_cons (sd_int) (sa_cons (sd_int) (sa_cons (sd_int) (sa_nil)))))) (sd_var 2)) (sa_nil)))) rfl (len_cons (len_cons (len_cons (len_nil))))))))))))
      (sb_cons (ss_set 9 sc__law_book.nd (sd_non))
      (sb_cons (ss_if (st_cmp op_eq ok_eq (sd_call (ok__law_mix T) (hr.mono (by decide)) (by rfl) T.m__law_mix T.F__law_mix.kp T.b__law_mix (sa_cons (sd_var 0) (sa_cons (sd_bin op_addA ok_add (sd_var 1) (sd_int)) (sa_cons (sd_int) (sa_nil)))) rfl (len_cons (len_cons (len_cons (len_nil))))) (sd_int) (nomark _)) (sb_one (ss_set 9 sc__law_book.nd (sd_call (ok__law_mix T) (hr.mono (by decide)) (by rfl) T.m__law_mix T.F__law_mix.kp T.b__law_mix (sa_cons (sd_var 0) (sa_cons (sd_bin op_addA ok_add (sd_var 1) (sd_int)) (sa_cons (sd_ix ix_K ok_ix (sd_frz (sdl_lst (sa_cons (sd_int) (sa_cons (sd_int) (sa_cons (sd_int) (sa_nil)))))) (sd_var 2)) (sa_nil)))) rfl (len_cons (len_cons (len_cons (len_nil))))))) (sb_nil))
      (sb_frz 4 (sb_one (ss_ret (sd_tup (sa_cons (sd_var 3) (sa_cons (sd_var 4) (sa_cons (sd_var 9) (sa_nil)))))))))))))))⟩
theorem ok__law_turned (T : Txt K mg cl) : FnOk P w K mg base CX0 3 T.a__law_turned T.d__law_turned ["draws", "first", "book"] (SpP K cl 3 f__law_turned) :=
  ok_pure T.F__law_turned sc__law_turned fz1_ok fun cdv A outer s H E hr => ⟨_,
    (show SdB K cl _ _ _ B__law_turned from (sb_cons (ss_asg (sd_var 2) (sg_tup rfl (sgs_cons (sg_name 3 sc__law_turned.nd) (sgs_cons (sg_name 4 sc__law_turned.nd) (sgs_cons (sg_name 5 sc__law_turned.nd) (sgs_nil))))))
      (sb_cons (ss_set 6 sc__law_turned.nd (sd_call (ok__law_mix T) (hr.mono (by decide)) (by rfl) T.m__law_mix T.F__law_mix.kp T.b__law_mix (sa_cons (sd_var 0) (sa_cons (sd_var 1) (sa_cons (sd_int) (sa_nil)))) rfl (len_cons (len_cons (len_cons (len_nil))))))
      (sb_cons (ss_set 7 sc__law_turned.nd (sd_call (ok__law_mix T) (hr.mono (by decide)) (by rfl) T.m__law_mix T.F__law_mix.kp T.b__law_mix (sa_cons (sd_var 0) (sa_cons (sd_bin op_addA ok_add (sd_var 1) (sd_int)) (sa_cons (sd_callB len_K ok_len (by rfl) T.z_len (by decide +kernel) (sa_cons (sd_var 4) (sa_nil))) (sa_nil)))) rfl (len_cons (len_cons (len_cons (len_nil))))))
      (sb_cons (ss_asg (sd_ix ix_K ok_ix (sd_var 4) (sd_var 7)) (sg_tup rfl (sgs_cons (sg_name 8 sc__law_turned.nd) (sgs_cons (sg_name 9 sc__law_turned.nd) (sgs_cons (sg_name 10 sc__law_turned.nd) (sgs_nil))))))
      (sb_cons (ss_if (st_cmp op_eq ok_eq (sd_var 6) (sd_int) (nomark _)) (sb_one (ss_ret (sd_tup (sa_cons (sd_bin op_addA ok_add (sd_bin op_addA ok_add (sd_var 3) (sd_int)) (sd_call (ok__law_mix T) (hr.mono (by decide)) (by rfl) T.m__law_mix T.F__law_mix.kp T.b__law_mix (sa_cons (sd_var 0) (sa_cons (sd_bin op_addA ok_add (sd_var 1) (sd_int)) (sa_cons (sd_int) (sa_nil)))) rfl (len_cons (len_cons (len_cons (len_nil)))))) (sa_cons (sd_var 4) (sa_cons (sd_var 5) (sa_nil))))))) (sb_nil))
      (sb_cons (ss_if (st_cmp op_eq ok_eq (sd_var 6) (sd_int) (nomark _)) (sb_one (ss_ret (sd_tup (sa_cons (sd_var 3) (sa_cons (sd_bin op_addA ok_add (sd_bin op_addA ok_add (sd_frz (sdl_slice (sd_var 4) (so_none) (so_some (sd_var 7)))) (sd_frz (sdl_lst (sa_cons (sd_tup (sa_cons (sd_var 8) (sa_cons (sd_var 9) (sa_cons (sd_bin op_addA ok_add (sd_var 10) (sd_int)) (sa_nil))))) (sa_nil))))) (sd_frz (sdl_slice (sd_var 4) (so_some (sd_bin op_addA ok_add (sd_var 7) (sd_int))) (so_none)))) (sa_cons (sd_var 5) (sa_nil))))))) (sb_nil))
      (sb_cons (ss_if (st_cmp op_eq ok_eq (sd_var 6) (sd_int) (nomark _)) (sb_one (ss_ret (sd_tup (sa_cons (sd_var 3) (sa_cons (sd_bin op_addA ok_add (sd_bin op_addA ok_add (sd_frz (sdl_slice (sd_var 4) (so_none) (so_some (sd_var 7)))) (sd_frz (sdl_lst (sa_cons (sd_tup (sa_cons (sd_var 8) (sa_cons (sd_bin op_mul ok_mul (sd_int) (sd_var 9)) (sa_cons (sd_bin op_mul ok_mul (sd_int) (sd_var 10)) (sa_nil))))) (sa_nil))))) (sd_frz (sdl_slice (sd_var 4) (so_some (sd_bin op_addA ok_add (sd_var 7) (sd_int))) (so_none)))) (sa_cons (sd_var 5) (sa_nil))))))) (sb_nil))
      (sb_cons (ss_if (st_cmp op_eq ok_eq (sd_var 6) (sd_int) (nomark _)) (sb_one (ss_ret (sd_tup (sa_cons (sd_var 3) (sa_cons (sd_var 4) (sa_cons (sd_ix ix_K ok_ix (sd_frz (sdl_lst (sa_cons (sd_non) (sa_cons (sd_int) (sa_cons (sd_int) (sa_nil)))))) (sd_call (ok__law_mix T) (hr.mono (by decide)) (by rfl) T.m__law_mix T.F__law_mix.kp T.b__law_mix (sa_cons (sd_var 0) (sa_cons (sd_bin op_addA ok_add (sd_var 1) (sd_int)) (sa_cons (sd_int) (sa_nil)))) rfl (len_cons (len_cons (len_cons (len_nil)))))) (sa_nil))))))) (sb_nil))
      (sb_cons (ss_if (SdW.pt (sw_and (st_cmp op_eq ok_eq (sd_var 6) (sd_int) (nomark _)) (sw_and (st_cmp op_eq ok_eq (sd_var 7) (sd_bin op_sub ok_sub (sd_callB len_K ok_len (by rfl) T.z_len (by decide +kernel) (sa_cons (sd_var 4) (sa_nil))) (sd_int)) (nomark _)) (sw_and1 (st_cmp op_lt ok_lt (sd_callB len_K ok_len (by rfl) T.z_len (by decide +kernel) (sa_cons (sd_var 4) (sa_nil))) (sd_int) (nomark _)))))) (sb_one (ss_ret (sd_tup (sa_cons (sd_var 3) (sa_cons (sd_bin op_addA ok_add (sd_var 4) (sd_frz (sdl_lst (sa_cons (sd_tup (sa_cons (sd_bin op_addA ok_add (sd_var 8) (sd_bin op_mul ok_mul (sd_var 9) (sd_bin op_addA ok_add (sd_int) (sd_call (ok__law_mix T) (hr.mono (by decide)) (by rfl) T.m__law_mix T.F__law_mix.kp T.b__law_mix (sa_cons (sd_var 0) (sa_cons (sd_bin op_addA ok_add (sd_var 1) (sd_int)) (sa_cons (sd_int) (sa_nil)))) rfl (len_cons (len_cons (len_cons (len_nil)))))))) (sa_cons (sd_var 9) (sa_cons (sd_var 10) (sa_nil))))) (sa_nil))))) (sa_cons (sd_var 5) (sa_nil))))))) (sb_nil))
      (sb_cons (ss_if (st_cmp op_eq ok_eq (sd_var 6) (sd_int) (nomark _)) (sb_one (ss_ret (sd_tup (sa_cons (sd_var 3) (sa_cons (sd_frz (sdl_list (sd_var 4) (by rfl) T.z_list)) (sa_cons (sd_var 5) (sa_nil))))))) (sb_nil))
      (sb_one (ss_ret (sd_call (ok__law_book T) (hr.mono (by decide)) (by rfl) T.m__law_book T.F__law_book.kp T.b__law_book (sa_cons (sd_var 0) (sa_cons (sd_bin op_addA ok_add (sd_var 1) (sd_int)) (sa_cons (sd_int) (sa_nil)))) rfl (len_cons (len_cons (len_cons (len_nil))))))))))))))))))⟩
theorem ok__law_raw (T : Txt K mg cl) : FnOk P w K mg base CX0 1 T.a__law_raw T.d__law_raw ["book", "length"] (SpP K cl 2 f__law_raw) :=
  ok_pure T.F__law_raw sc__law_raw fz1_ok fun cdv A outer s H E hr => ⟨_,
    (show SdB K cl _ _ _ B__law_raw from (sb_cons (ss_asg (sd_var 0) (sg_tup rfl (sgs_cons (sg_name 2 sc__law_raw.nd) (sgs_cons (sg_name 3 sc__law_raw.nd) (sgs_cons (sg_name 4 sc__law_raw.nd) (sgs_nil))))))
      (sb_cons (ss_set 5 sc__law_raw.nd (sd_var 2))
      (sb_cons (ss_for PassesOwn.never rfl (si_r1 (sa_cons (sd_callB len_K ok_len (by rfl) T.z_len (by decide +kernel) (sa_cons (sd_var 3) (sa_nil))) (sa_nil)) (by rfl) T.z_range) (sg_name 6 sc__law_raw.nd) (sb_cons (ss_asg (sd_ix ix_K ok_ix (sd_var 3) (sd_var 6)) (sg_tup rfl (sgs_cons (sg_name 7 sc__law_raw.nd) (sgs_cons (sg_name 8 sc__law_raw.nd) (sgs_cons (sg_name 9 sc__law_raw.nd) (sgs_nil))))))
      (sb_cons (ss_set 10 sc__law_raw.nd (sd_bin op_sub ok_sub (sd_var 1) (sd_var 7)))
      (sb_cons (ss_if (st_cmp op_lt ok_lt (sd_bin op_addA ok_add (sd_var 6) (sd_int)) (sd_callB len_K ok_len (by rfl) T.z_len (by decide +kernel) (sa_cons (sd_var 3) (sa_nil))) (nomark _)) (sb_one (ss_set 10 sc__law_raw.nd (sd_callB (call_min2 rfl) ok_min2 (by rfl) T.z_min (by decide +kernel) (sa_cons (sd_var 10) (sa_cons (sd_bin op_sub ok_sub (sd_ix ix_K ok_ix (sd_ix ix_K ok_ix (sd_var 3) (sd_bin op_addA ok_add (sd_var 6) (sd_int))) (sd_int)) (sd_var 7)) (sa_nil)))))) (sb_nil))
      (sb_one (ss_if (st_cmp op_gt ok_gt (sd_var 10) (sd_int) (nomark _)) (sb_one (ss_set 5 sc__law_raw.nd (sd_bin op_addA ok_add (sd_var 5) (sd_bin op_mul ok_mul (sd_var 9) (sd_callTy call_int1 ok_int (by rfl) T.z_int (by decide +kernel) (sa_cons (sd_bin op_fdivN ok_fdiv (sd_bin op_sub ok_sub (sd_bin op_addA ok_add (sd_var 10) (sd_var 8)) (sd_int)) (sd_var 8)) (sa_nil))))))) (sb_nil)))))))
      (sb_one (ss_ret (sd_var 5)))))))⟩
theorem ok__law_fare (T : Txt K mg cl) : FnOk P w K mg base CX0 2 T.a__law_fare T.d__law_fare ["book", "length"] (SpP K cl 2 f__law_fare) :=
  ok_pure T.F__law_fare sc__law_fare fz1_ok fun cdv A outer s H E hr => ⟨_,
    (show SdB K cl _ _ _ B__law_fare from (sb_cons (ss_set 2 sc__law_fare.nd (sd_call (ok__law_raw T) (hr.mono (by decide)) (by rfl) T.m__law_raw T.F__law_raw.kp T.b__law_raw (sa_cons (sd_var 0) (sa_cons (sd_var 1) (sa_nil))) rfl (len_cons (len_cons (len_nil)))))
      (sb_cons (ss_if (SdW.pt (sw_and (st_cmp op_notN ok_notN (sd_ix ix_K ok_ix (sd_var 0) (sd_int)) (sd_non) (nomark _)) (sw_and1 (st_cmp op_gt ok_gt (sd_var 2) (sd_ix ix_K ok_ix (sd_var 0) (sd_int)) (nomark _))))) (sb_one (ss_ret (sd_ix ix_K ok_ix (sd_var 0) (sd_int)))) (sb_nil))
      (sb_one (ss_ret (sd_var 2))))))⟩
theorem ok__law_first (T : Txt K mg cl) : FnOk P w K mg base CX0 3 T.a__law_first T.d__law_first ["one", "two", "word"] (SpP K cl 3 f__law_first) :=
  ok_pure T.F__law_first sc__law_first fz1_ok fun cdv A outer s H E hr => ⟨_,
    (show SdB K cl _ _ _ B__law_first from (sb_cons (ss_for PassesOwn.never rfl (si_r1 (sa_cons (sd_int) (sa_nil)) (by rfl) T.z_range) (sg_name 3 sc__law_first.nd) (sb_cons (ss_set 4 sc__law_first.nd (sd_call (ok__law_fare T) (hr.mono (by decide)) (by rfl) T.m__law_fare T.F__law_fare.kp T.b__law_fare (sa_cons (sd_var 0) (sa_cons (sd_var 3) (sa_nil))) rfl (len_cons (len_cons (len_nil)))))
      (sb_cons (ss_set 5 sc__law_first.nd (sd_call (ok__law_fare T) (hr.mono (by decide)) (by rfl) T.m__law_fare T.F__law_fare.kp T.b__law_fare (sa_cons (sd_var 1) (sa_cons (sd_var 3) (sa_nil))) rfl (len_cons (len_cons (len_nil)))))
      (sb_one (ss_if (SdW.pt (sw_or (SdW.pt (sw_and (st_cmp op_eq ok_eq (sd_var 2) (sd_int) (nomark _)) (sw_and1 (st_cmp op_gt ok_gt (sd_var 4) (sd_var 5) (nomark _))))) (sw_or1 (SdW.pt (sw_and (st_cmp op_eq ok_eq (sd_var 2) (sd_int) (nomark _)) (sw_and1 (st_cmp op_ne ok_ne (sd_var 4) (sd_var 5) (nomark _)))))))) (sb_one (ss_ret (sd_var 3))) (sb_nil))))))
      (sb_one (ss_ret (sd_non)))))⟩
theorem ok__law_is_told (T : Txt K mg cl) : FnOk P w K mg base CX0 3 T.a__law_is_told T.d__law_is_told ["told", "due", "one", "two", "word"] (SpP K cl 5 f__law_is_told) :=
  ok_pure T.F__law_is_told sc__law_is_told fz1_ok fun cdv A outer s H E hr => ⟨_,
    (show SdB K cl _ _ _ B__law_is_told from (sb_cons (ss_if (st_cmp op_notN ok_notN (sd_var 1) (sd_non) (nomark _)) (sb_one (ss_ret (sd_and (sd_isi (sd_var 0) (by rfl) T.z_isinstance (by rfl) T.z_int (by decide +kernel)) (sd_and (sd_not (sd_isi (sd_var 0) (by rfl) T.z_isinstance (by rfl) T.z_bool (by decide +kernel))) (sd_one (sd_cmp op_eq ok_eq (sd_var 0) (sd_var 1) (nomark _))))))) (sb_nil))
      (sb_cons (ss_if (st_cmp op_isN ok_isN (sd_var 0) (sd_non) (nomark _)) (sb_one (ss_ret (sd_bl))) (sb_nil))
      (sb_cons (ss_if (SdW.pt (sw_or (st_not (st_tru (sd_isi (sd_var 0) (by rfl) T.z_isinstance (by rfl) T.z_int (by decide +kernel)))) (sw_or (st_tru (sd_isi (sd_var 0) (by rfl) T.z_isinstance (by rfl) T.z_bool (by decide +kernel))) (sw_or1 (st_cmp op_le ok_le (sd_var 0) (sd_int) (nomark _)))))) (sb_one (ss_ret (sd_bl))) (sb_nil))
      (sb_cons (ss_set 5 sc__law_is_told.nd (sd_call (ok__law_fare T) (hr.mono (by decide)) (by rfl) T.m__law_fare T.F__law_fare.kp T.b__law_fare (sa_cons (sd_var 2) (sa_cons (sd_var 0) (sa_nil))) rfl (len_cons (len_cons (len_nil)))))
      (sb_cons (ss_set 6 sc__law_is_told.nd (sd_call (ok__law_fare T) (hr.mono (by decide)) (by rfl) T.m__law_fare T.F__law_fare.kp T.b__law_fare (sa_cons (sd_var 3) (sa_cons (sd_var 0) (sa_nil))) rfl (len_cons (len_cons (len_nil)))))
      (sb_one (ss_ret (sd_or (sd_and (sd_cmp op_eq ok_eq (sd_var 4) (sd_int) (nomark _)) (sd_one (sd_cmp op_gt ok_gt (sd_var 5) (sd_var 6) (nomark _)))) (sd_one (sd_and (sd_cmp op_eq ok_eq (sd_var 4) (sd_int) (nomark _)) (sd_one (sd_cmp op_ne ok_ne (sd_var 5) (sd_var 6) (nomark _))))))))))))))⟩
theorem ok_top (T : Txt K mg cl) : FnG P w K mg base 7 T.a_law T.d_law ["script"] (SpLaw K 7 B_law) :=
  ok_law (cl := cl) T.F_law sc_law fun cdv A fr s H E hG hr => ⟨_,
    (show SdB K cl _ _ _ B_law from (sb_cons (ss_set 1 sc_law.nd (sd_call (ok__law_draws T) (hr.mono (by decide)) (by rfl) T.m__law_draws T.F__law_draws.kp T.b__law_draws (sa_cons (sd_var 0) (sa_nil)) rfl (len_cons (len_nil))))
      (sb_cons (ss_set 2 sc_law.nd (sd_call (ok__law_book T) (hr.mono (by decide)) (by rfl) T.m__law_book T.F__law_book.kp T.b__law_book (sa_cons (sd_var 1) (sa_cons (sd_int) (sa_cons (sd_ix ix_K ok_ix (sd_frz (sdl_lst (sa_cons (sd_int) (sa_cons (sd_int) (sa_cons (sd_int) (sa_nil)))))) (sd_call (ok__law_mix T) (hr.mono (by decide)) (by rfl) T.m__law_mix T.F__law_mix.kp T.b__law_mix (sa_cons (sd_var 1) (sa_cons (sd_int) (sa_cons (sd_int) (sa_nil)))) rfl (len_cons (len_cons (len_cons (len_nil)))))) (sa_nil)))) rfl (len_cons (len_cons (len_cons (len_nil))))))
      (sb_cons (ss_set 3 sc_law.nd (sd_call (ok__law_turned T) (hr.mono (by decide)) (by rfl) T.m__law_turned T.F__law_turned.kp T.b__law_turned (sa_cons (sd_var 1) (sa_cons (sd_int) (sa_cons (sd_var 2) (sa_nil)))) rfl (len_cons (len_cons (len_cons (len_nil))))))
      (sb_cons (ss_set 4 sc_law.nd (sd_callB (repr_K hG hr.units) ok_repr (by rfl) T.z_repr (by decide +kernel) (sa_cons (sd_tup (sa_cons (sd_var 2) (sa_cons (sd_var 3) (sa_nil)))) (sa_nil))))
      (sb_cons (ss_for PassesOwn.never rfl (si_sq (sd_frz (sdl_lst (sa_cons (sd_tup (sa_cons (sd_var 2) (sa_cons (sd_var 3) (sa_nil)))) (sa_cons (sd_tup (sa_cons (sd_var 3) (sa_cons (sd_var 2) (sa_nil)))) (sa_cons (sd_tup (sa_cons (sd_var 2) (sa_cons (sd_var 2) (sa_nil)))) (sa_nil))))))) (sg_tup rfl (sgs_cons (sg_name 5 sc_law.nd) (sgs_cons (sg_name 6 sc_law.nd) (sgs_nil)))) (sb_cons (ss_if (st_not (st_tru (sd_call (ok__law_is_told T) (hr.mono (by decide)) (by rfl) T.m__law_is_told T.F__law_is_told.kp T.b__law_is_told (sa_cons (sd_call (ok_first_dearer T) (hr.mono (by decide)) (by rfl) T.m_first_dearer T.F_first_dearer.kp T.b_first_dearer (sa_cons (sd_var 5) (sa_cons (sd_var 6) (sa_nil))) rfl (len_cons (len_cons (len_nil)))) (sa_cons (sd_call (ok__law_first T) (hr.mono (by decide)) (by rfl) T.m__law_first T.F__law_first.kp T.b__law_first (sa_cons (sd_var 5) (sa_cons (sd_var 6) (sa_cons (sd_int) (sa_nil)))) rfl (len_cons (len_cons (len_cons (len_nil))))) (sa_cons (sd_var 5) (sa_cons (sd_var 6) (sa_cons (sd_int) (sa_nil)))))) rfl (len_cons (len_cons (len_cons (len_cons (len_cons (len_nil))))))))) (sb_one (ss_ret (sd_bl))) (sb_nil))
      (sb_one (ss_if (st_not (st_tru (sd_call (ok__law_is_told T) (hr.mono (by decide)) (by rfl) T.m__law_is_told T.F__law_is_told.kp T.b__law_is_told (sa_cons (sd_call (ok_first_unlike T) (hr.mono (by decide)) (by rfl) T.m_first_unlike T.F_first_unlike.kp T.b_first_unlike (sa_cons (sd_var 5) (sa_cons (sd_var 6) (sa_nil))) rfl (len_cons (len_cons (len_nil)))) (sa_cons (sd_call (ok__law_first T) (hr.mono (by decide)) (by rfl) T.m__law_first T.F__law_first.kp T.b__law_first (sa_cons (sd_var 5) (sa_cons (sd_var 6) (sa_cons (sd_int) (sa_nil)))) rfl (len_cons (len_cons (len_cons (len_nil))))) (sa_cons (sd_var 5) (sa_cons (sd_var 6) (sa_cons (sd_int) (sa_nil)))))) rfl (len_cons (len_cons (len_cons (len_cons (len_cons (len_nil))))))))) (sb_one (ss_ret (sd_bl))) (sb_nil)))))
      (sb_cons (ss_if (SdW.pt (sw_or (st_cmp op_notN ok_notN (sd_call (ok_first_dearer T) (hr.mono (by decide)) (by rfl) T.m_first_dearer T.F_first_dearer.kp T.b_first_dearer (sa_cons (sd_var 2) (sa_cons (sd_var 2) (sa_nil))) rfl (len_cons (len_cons (len_nil)))) (sd_non) (nomark _)) (sw_or1 (st_cmp op_notN ok_notN (sd_call (ok_first_unlike T) (hr.mono (by decide)) (by rfl) T.m_first_unlike T.F_first_unlike.kp T.b_first_unlike (sa_cons (sd_var 3) (sa_cons (sd_var 3) (sa_nil))) rfl (len_cons (len_cons (len_nil)))) (sd_non) (nomark _))))) (sb_one (ss_ret (sd_bl))) (sb_nil))
      (sb_one (ss_ret (sd_cmp op_eq ok_eq (sd_callB (repr_K hG hr.units) ok_repr (by rfl) T.z_repr (by decide +kernel) (sa_cons (sd_tup (sa_cons (sd_var 2) (sa_cons (sd_var 3) (sa_nil)))) (sa_nil))) (sd_var 4) (nomark _)))))))))))⟩
end
/-! ### the head -/
theorem all_mk {P : Program} {w : World} {K : PySem.W.Frag} {h : Heap} {mg : Str → Option Value} {fa a0 a1 a2 a3 a4 a5 a6 a7 a8 a9 a10 a11 a12 a13 a14 a15 a16 a17 a18 a19 a20 a21 a22 C0 : Addr} (X : K.In h) (G : h.Ns mainGlobals mg) (hfa : mg "law" = some (.ref fa))
    {od0 an0 od1 an1 od2 an2 od3 an3 od4 an4 od5 an5 od6 an6 od7 an7 od8 an8 od9 an9 od10 an10 od11 an11 od12 an12 od13 an13 od14 an14 od15 an15 od16 an16 od17 an17 od18 an18 od19 an19 od20 an20 od21 an21 od22 an22 : Option Addr} {sl0 sl1 sl2 sl3 sl4 sl5 sl6 sl7 sl8 sl9 sl10 sl11 sl12 sl13 sl14 sl15 sl16 sl17 sl18 sl19 sl20 sl21 sl22 : Array (Option Value)} {oc0 kV0 dc0 pm0 cd0 ct0 oc1 kV1 dc1 pm1 cd1 ct1 oc2 kV2 dc2 pm2 cd2 ct2 oc3 kV3 dc3 pm3 cd3 ct3 oc4 kV4 dc4 pm4 cd4 ct4 oc5 kV5 dc5 pm5 cd5 ct5 oc6 kV6 dc6 pm6 cd6 ct6 oc7 kV7 dc7 pm7 cd7 ct7 oc8 kV8 dc8 pm8 cd8 ct8 oc9 kV9 dc9 pm9 cd9 ct9 oc10 kV10 dc10 pm10 cd10 ct10 oc11 kV11 dc11 pm11 cd11 ct11 oc12 kV12 dc12 pm12 cd12 ct12 oc13 kV13 dc13 pm13 cd13 ct13 oc14 kV14 dc14 pm14 cd14 ct14 oc15 kV15 dc15 pm15 cd15 ct15 oc16 kV16 dc16 pm16 cd16 ct16 oc17 kV17 dc17 pm17 cd17 ct17 oc18 kV18 dc18 pm18 cd18 ct18 oc19 kV19 dc19 pm19 cd19 ct19 oc20 kV20 dc20 pm20 cd20 ct20 oc21 kV21 dc21 pm21 cd21 ct21 oc22 kV22 dc22 pm22 cd22 ct22 : Value} {tk_MOST_BASE tk_MOST_CAP tk_MOST_FIRST tk_MOST_PRICE tk_MOST_TIERS tk_MOST_UNIT : Tok}
    (ns_Piece : PySem.W.nsIn K mainGlobals "Piece" = some (some (.ref C0)))
    (at0 : PySem.W.nsIn K mainGlobals "is_tier" = some (some (.ref a0)))
    (lk0 : K.lookup a0 = some ⟨oc0, od0, .func (PySem.W.fnOf "is_tier" "is_tier" (defArgs s_is_tier) (defBody s_is_tier) (defScope s_is_tier) .none kV0 dc0 pm0 an0 cd0 ct0), sl0⟩)
    (co0 : PySem.W.codeIn K cd0 "is_tier" = true)
    (kp0 : PySem.W.keepIn K (.ref a0) = true)
    (at1 : PySem.W.nsIn K mainGlobals "is_book" = some (some (.ref a1)))
    (lk1 : K.lookup a1 = some ⟨oc1, od1, .func (PySem.W.fnOf "is_book" "is_book" (defArgs s_is_book) (defBody s_is_book) (defScope s_is_book) .none kV1 dc1 pm1 an1 cd1 ct1), sl1⟩)
    (co1 : PySem.W.codeIn K cd1 "is_book" = true)
    (kp1 : PySem.W.keepIn K (.ref a1) = true)
    (at2 : PySem.W.nsIn K mainGlobals "check_books" = some (some (.ref a2)))
    (lk2 : K.lookup a2 = some ⟨oc2, od2, .func (PySem.W.fnOf "check_books" "check_books" (defArgs s_check_books) (defBody s_check_books) (defScope s_check_books) .none kV2 dc2 pm2 an2 cd2 ct2), sl2⟩)
    (co2 : PySem.W.codeIn K cd2 "check_books" = true)
    (kp2 : PySem.W.keepIn K (.ref a2) = true)
    (at3 : PySem.W.findIn K (.ref C0) "__init__" = some (some (.ref a3)))
    (is3 : PySem.W.isFn K (.ref a3) = true)
    (lk3 : K.lookup a3 = some ⟨oc3, od3, .func (PySem.W.fnOf "__init__" "Piece.__init__" (defArgs s_Piece___init__) (defBody s_Piece___init__) (defScope s_Piece___init__) .none kV3 dc3 pm3 an3 cd3 ct3), sl3⟩)
    (co3 : PySem.W.codeIn K cd3 "Piece.__init__" = true)
    (kp3 : PySem.W.keepIn K (.ref a3) = true)
    (at4 : PySem.W.nsIn K mainGlobals "units" = some (some (.ref a4)))
    (lk4 : K.lookup a4 = some ⟨oc4, od4, .func (PySem.W.fnOf "units" "units" (defArgs s_units) (defBody s_units) (defScope s_units) .none kV4 dc4 pm4 an4 cd4 ct4), sl4⟩)
    (co4 : PySem.W.codeIn K cd4 "units" = true)
    (kp4 : PySem.W.keepIn K (.ref a4) = true)
    (at5 : PySem.W.findIn K (.ref C0) "fare" = some (some (.ref a5)))
    (is5 : PySem.W.isFn K (.ref a5) = true)
    (lk5 : K.lookup a5 = some ⟨oc5, od5, .func (PySem.W.fnOf "fare" "Piece.fare" (defArgs s_Piece_fare) (defBody s_Piece_fare) (defScope s_Piece_fare) .none kV5 dc5 pm5 an5 cd5 ct5), sl5⟩)
    (co5 : PySem.W.codeIn K cd5 "Piece.fare" = true)
    (kp5 : PySem.W.keepIn K (.ref a5) = true)
    (at6 : PySem.W.nsIn K mainGlobals "raw_pieces" = some (some (.ref a6)))
    (lk6 : K.lookup a6 = some ⟨oc6, od6, .func (PySem.W.fnOf "raw_pieces" "raw_pieces" (defArgs s_raw_pieces) (defBody s_raw_pieces) (defScope s_raw_pieces) .none kV6 dc6 pm6 an6 cd6 ct6), sl6⟩)
    (co6 : PySem.W.codeIn K cd6 "raw_pieces" = true)
    (kp6 : PySem.W.keepIn K (.ref a6) = true)
    (at7 : PySem.W.nsIn K mainGlobals "first_above" = some (some (.ref a7)))
    (lk7 : K.lookup a7 = some ⟨oc7, od7, .func (PySem.W.fnOf "first_above" "first_above" (defArgs s_first_above) (defBody s_first_above) (defScope s_first_above) .none kV7 dc7 pm7 an7 cd7 ct7), sl7⟩)
    (co7 : PySem.W.codeIn K cd7 "first_above" = true)
    (kp7 : PySem.W.keepIn K (.ref a7) = true)
    (at8 : PySem.W.nsIn K mainGlobals "pieces" = some (some (.ref a8)))
    (lk8 : K.lookup a8 = some ⟨oc8, od8, .func (PySem.W.fnOf "pieces" "pieces" (defArgs s_pieces) (defBody s_pieces) (defScope s_pieces) .none kV8 dc8 pm8 an8 cd8 ct8), sl8⟩)
    (co8 : PySem.W.codeIn K cd8 "pieces" = true)
    (kp8 : PySem.W.keepIn K (.ref a8) = true)
    (at9 : PySem.W.nsIn K mainGlobals "piece_at" = some (some (.ref a9)))
    (lk9 : K.lookup a9 = some ⟨oc9, od9, .func (PySem.W.fnOf "piece_at" "piece_at" (defArgs s_piece_at) (defBody s_piece_at) (defScope s_piece_at) .none kV9 dc9 pm9 an9 cd9 ct9), sl9⟩)
    (co9 : PySem.W.codeIn K cd9 "piece_at" = true)
    (kp9 : PySem.W.keepIn K (.ref a9) = true)
    (at10 : PySem.W.nsIn K mainGlobals "first_between" = some (some (.ref a10)))
    (lk10 : K.lookup a10 = some ⟨oc10, od10, .func (PySem.W.fnOf "first_between" "first_between" (defArgs s_first_between) (defBody s_first_between) (defScope s_first_between) .none kV10 dc10 pm10 an10 cd10 ct10), sl10⟩)
    (co10 : PySem.W.codeIn K cd10 "first_between" = true)
    (kp10 : PySem.W.keepIn K (.ref a10) = true)
    (at11 : PySem.W.nsIn K mainGlobals "dearer" = some (some (.ref a11)))
    (lk11 : K.lookup a11 = some ⟨oc11, od11, .func (PySem.W.fnOf "dearer" "dearer" (defArgs s_dearer) (defBody s_dearer) (defScope s_dearer) .none kV11 dc11 pm11 an11 cd11 ct11), sl11⟩)
    (co11 : PySem.W.codeIn K cd11 "dearer" = true)
    (kp11 : PySem.W.keepIn K (.ref a11) = true)
    (at12 : PySem.W.nsIn K mainGlobals "first_dearer" = some (some (.ref a12)))
    (lk12 : K.lookup a12 = some ⟨oc12, od12, .func (PySem.W.fnOf "first_dearer" "first_dearer" (defArgs s_first_dearer) (defBody s_first_dearer) (defScope s_first_dearer) .none kV12 dc12 pm12 an12 cd12 ct12), sl12⟩)
    (co12 : PySem.W.codeIn K cd12 "first_dearer" = true)
    (kp12 : PySem.W.keepIn K (.ref a12) = true)
    (at13 : PySem.W.nsIn K mainGlobals "first_unlike" = some (some (.ref a13)))
    (lk13 : K.lookup a13 = some ⟨oc13, od13, .func (PySem.W.fnOf "first_unlike" "first_unlike" (defArgs s_first_unlike) (defBody s_first_unlike) (defScope s_first_unlike) .none kV13 dc13 pm13 an13 cd13 ct13), sl13⟩)
    (co13 : PySem.W.codeIn K cd13 "first_unlike" = true)
    (kp13 : PySem.W.keepIn K (.ref a13) = true)
    (at14 : PySem.W.nsIn K mainGlobals "_law_draws" = some (some (.ref a14)))
    (lk14 : K.lookup a14 = some ⟨oc14, od14, .func (PySem.W.fnOf "_law_draws" "_law_draws" (defArgs s__law_draws) (defBody s__law_draws) (defScope s__law_draws) .none kV14 dc14 pm14 an14 cd14 ct14), sl14⟩)
    (co14 : PySem.W.codeIn K cd14 "_law_draws" = true)
    (kp14 : PySem.W.keepIn K (.ref a14) = true)
    (at15 : PySem.W.nsIn K mainGlobals "_law_mix" = some (some (.ref a15)))
    (lk15 : K.lookup a15 = some ⟨oc15, od15, .func (PySem.W.fnOf "_law_mix" "_law_mix" (defArgs s__law_mix) (defBody s__law_mix) (defScope s__law_mix) .none kV15 dc15 pm15 an15 cd15 ct15), sl15⟩)
    (co15 : PySem.W.codeIn K cd15 "_law_mix" = true)
    (kp15 : PySem.W.keepIn K (.ref a15) = true)
    (at16 : PySem.W.nsIn K mainGlobals "_law_book" = some (some (.ref a16)))
    (lk16 : K.lookup a16 = some ⟨oc16, od16, .func (PySem.W.fnOf "_law_book" "_law_book" (defArgs s__law_book) (defBody s__law_book) (defScope s__law_book) .none kV16 dc16 pm16 an16 cd16 ct16), sl16⟩)
    (co16 : PySem.W.codeIn K cd16 "_law_book" = true)
    (kp16 : PySem.W.keepIn K (.ref a16) = true)
    (at17 : PySem.W.nsIn K mainGlobals "_law_turned" = some (some (.ref a17)))
    (lk17 : K.lookup a17 = some ⟨oc17, od17, .func (PySem.W.fnOf "_law_turned" "_law_turned" (defArgs s__law_turned) (defBody s__law_turned) (defScope s__law_turned) .none kV17 dc17 pm17 an17 cd17 ct17), sl17⟩)
    (co17 : PySem.W.codeIn K cd17 "_law_turned" = true)
    (kp17 : PySem.W.keepIn K (.ref a17) = true)
    (at18 : PySem.W.nsIn K mainGlobals "_law_raw" = some (some (.ref a18)))
    (lk18 : K.lookup a18 = some ⟨oc18, od18, .func (PySem.W.fnOf "_law_raw" "_law_raw" (defArgs s__law_raw) (defBody s__law_raw) (defScope s__law_raw) .none kV18 dc18 pm18 an18 cd18 ct18), sl18⟩)
    (co18 : PySem.W.codeIn K cd18 "_law_raw" = true)
    (kp18 : PySem.W.keepIn K (.ref a18) = true)
    (at19 : PySem.W.nsIn K mainGlobals "_law_fare" = some (some (.ref a19)))
    (lk19 : K.lookup a19 = some ⟨oc19, od19, .func (PySem.W.fnOf "_law_fare" "_law_fare" (defArgs s__law_fare) (defBody s__law_fare) (defScope s__law_fare) .none kV19 dc19 pm19 an19 cd19 ct19), sl19⟩)
    (co19 : PySem.W.codeIn K cd19 "_law_fare" = true)
    (kp19 : PySem.W.keepIn K (.ref a19) = true)
    (at20 : PySem.W.nsIn K mainGlobals "_law_first" = some (some (.ref a20)))
    (lk20 : K.lookup a20 = some ⟨oc20, od20, .func (PySem.W.fnOf "_law_first" "_law_first" (defArgs s__law_first) (defBody s__law_first) (defScope s__law_first) .none kV20 dc20 pm20 an20 cd20 ct20), sl20⟩)
    (co20 : PySem.W.codeIn K cd20 "_law_first" = true)
    (kp20 : PySem.W.keepIn K (.ref a20) = true)
    (at21 : PySem.W.nsIn K mainGlobals "_law_is_told" = some (some (.ref a21)))
    (lk21 : K.lookup a21 = some ⟨oc21, od21, .func (PySem.W.fnOf "_law_is_told" "_law_is_told" (defArgs s__law_is_told) (defBody s__law_is_told) (defScope s__law_is_told) .none kV21 dc21 pm21 an21 cd21 ct21), sl21⟩)
    (co21 : PySem.W.codeIn K cd21 "_law_is_told" = true)
    (kp21 : PySem.W.keepIn K (.ref a21) = true)
    (at22 : PySem.W.nsIn K mainGlobals "law" = some (some (.ref a22)))
    (lk22 : K.lookup a22 = some ⟨oc22, od22, .func (PySem.W.fnOf "law" "law" (defArgs s_law) (defBody s_law) (defScope s_law) .none kV22 dc22 pm22 an22 cd22 ct22), sl22⟩)
    (co22 : PySem.W.codeIn K cd22 "law" = true)
    (kp22 : PySem.W.keepIn K (.ref a22) = true)
    (z_abs : PySem.W.nsIn K mainGlobals "abs" = some none)
    (z_all : PySem.W.nsIn K mainGlobals "all" = some none)
    (z_bool : PySem.W.nsIn K mainGlobals "bool" = some none)
    (z_enumerate : PySem.W.nsIn K mainGlobals "enumerate" = some none)
    (z_int : PySem.W.nsIn K mainGlobals "int" = some none)
    (z_isinstance : PySem.W.nsIn K mainGlobals "isinstance" = some none)
    (z_len : PySem.W.nsIn K mainGlobals "len" = some none)
    (z_list : PySem.W.nsIn K mainGlobals "list" = some none)
    (z_min : PySem.W.nsIn K mainGlobals "min" = some none)
    (z_range : PySem.W.nsIn K mainGlobals "range" = some none)
    (z_repr : PySem.W.nsIn K mainGlobals "repr" = some none)
    (z_sorted : PySem.W.nsIn K mainGlobals "sorted" = some none)
    (z_zip : PySem.W.nsIn K mainGlobals "zip" = some none)
    (k_MOST_BASE : PySem.W.nsIn K mainGlobals "MOST_BASE" = some (some (.int 100000 tk_MOST_BASE)))
    (k_MOST_CAP : PySem.W.nsIn K mainGlobals "MOST_CAP" = some (some (.int 1000000 tk_MOST_CAP)))
    (k_MOST_FIRST : PySem.W.nsIn K mainGlobals "MOST_FIRST" = some (some (.int 300 tk_MOST_FIRST)))
    (k_MOST_PRICE : PySem.W.nsIn K mainGlobals "MOST_PRICE" = some (some (.int 1000 tk_MOST_PRICE)))
    (k_MOST_TIERS : PySem.W.nsIn K mainGlobals "MOST_TIERS" = some (some (.int 5 tk_MOST_TIERS)))
    (k_MOST_UNIT : PySem.W.nsIn K mainGlobals "MOST_UNIT" = some (some (.int 60 tk_MOST_UNIT)))
    (i_lcm : PySem.W.nsIn K mainGlobals "lcm" = some (some (.builtin "math.lcm")))
    (pg_Piece : PySem.W.plainGet K C0 Str.empty = true)
    (hd_Piece : PySem.W.hasDictIn K C0 = true)
    (po_Piece : PySem.W.plainOver K C0 = true)
    (sa_Piece : PySem.W.findIn K (.ref C0) "__setattr__" = some (some (.builtin "object.__setattr__")))
    (ma_Piece : PySem.W.makesIn K C0 = true)
    (kc_Piece : PySem.W.keepIn K (.ref C0) = true)
    (n_Piece_base : PySem.W.findIn K (.ref C0) "base" = some none)
    (n_Piece_first : PySem.W.findIn K (.ref C0) "first" = some none)
    (n_Piece_price : PySem.W.findIn K (.ref C0) "price" = some none)
    (n_Piece_start : PySem.W.findIn K (.ref C0) "start" = some none)
    (n_Piece_stop : PySem.W.findIn K (.ref C0) "stop" = some none)
    (n_Piece_unit : PySem.W.findIn K (.ref C0) "unit" = some none) :
    ∃ fd : FuncData, (∀ (s : Shared) (v : Value), BindsTo s fd ⟨[v], []⟩ [("script", v)]) ∧ ∀ base : Heap, K.In base → base.Ns mainGlobals mg → FnG P w K mg base 7 fa fd ["script"] (SpLaw K 7 B_law) := by
  have e := hfa.symm.trans (PySem.W.mg_of X G at22)
  cases e
  have F0 := fun_mk (st := s_is_tier) lk0 co0 kp0
  have b0 := F0.binds (ps := ["tier"]) fun _ _ _ _ _ _ us hl => match us, hl with | [_], _ => rfl
  have F1 := fun_mk (st := s_is_book) lk1 co1 kp1
  have b1 := F1.binds (ps := ["book"]) fun _ _ _ _ _ _ us hl => match us, hl with | [_], _ => rfl
  have F2 := fun_mk (st := s_check_books) lk2 co2 kp2
  have b2 := F2.binds (ps := ["books"]) fun _ _ _ _ _ _ us hl => match us, hl with | [_], _ => rfl
  have F3 := fun_mk (st := s_Piece___init__) lk3 co3 kp3
  have b3 := F3.binds (ps := ["self", "start", "stop", "base", "tier"]) fun _ _ _ _ _ _ us hl => match us, hl with | [_, _, _, _, _], _ => rfl
  have F4 := fun_mk (st := s_units) lk4 co4 kp4
  have b4 := F4.binds (ps := ["length", "unit"]) fun _ _ _ _ _ _ us hl => match us, hl with | [_, _], _ => rfl
  have F5 := fun_mk (st := s_Piece_fare) lk5 co5 kp5
  have b5 := F5.binds (ps := ["self", "length"]) fun _ _ _ _ _ _ us hl => match us, hl with | [_, _], _ => rfl
  have F6 := fun_mk (st := s_raw_pieces) lk6 co6 kp6
  have b6 := F6.binds (ps := ["book"]) fun _ _ _ _ _ _ us hl => match us, hl with | [_], _ => rfl
  have F7 := fun_mk (st := s_first_above) lk7 co7 kp7
  have b7 := F7.binds (ps := ["piece", "least"]) fun _ _ _ _ _ _ us hl => match us, hl with | [_, _], _ => rfl
  have F8 := fun_mk (st := s_pieces) lk8 co8 kp8
  have b8 := F8.binds (ps := ["book"]) fun _ _ _ _ _ _ us hl => match us, hl with | [_], _ => rfl
  have F9 := fun_mk (st := s_piece_at) lk9 co9 kp9
  have b9 := F9.binds (ps := ["found", "length"]) fun _ _ _ _ _ _ us hl => match us, hl with | [_, _], _ => rfl
  have F10 := fun_mk (st := s_first_between) lk10 co10 kp10
  have b10 := F10.binds (ps := ["one", "two", "start", "stop"]) fun _ _ _ _ _ _ us hl => match us, hl with | [_, _, _, _], _ => rfl
  have F11 := fun_mk (st := s_dearer) lk11 co11 kp11
  have b11 := F11.binds (ps := ["one", "two"]) fun _ _ _ _ _ _ us hl => match us, hl with | [_, _], _ => rfl
  have F12 := fun_mk (st := s_first_dearer) lk12 co12 kp12
  have b12 := F12.binds (ps := ["one", "two"]) fun _ _ _ _ _ _ us hl => match us, hl with | [_, _], _ => rfl
  have F13 := fun_mk (st := s_first_unlike) lk13 co13 kp13
  have b13 := F13.binds (ps := ["one", "two"]) fun _ _ _ _ _ _ us hl => match us, hl with | [_, _], _ => rfl
  have F14 := fun_mk (st := s__law_draws) lk14 co14 kp14
  have b14 := F14.binds (ps := ["script"]) fun _ _ _ _ _ _ us hl => match us, hl with | [_], _ => rfl
  have F15 := fun_mk (st := s__law_mix) lk15 co15 kp15
  have b15 := F15.binds (ps := ["draws", "k", "many"]) fun _ _ _ _ _ _ us hl => match us, hl with | [_, _, _], _ => rfl
  have F16 := fun_mk (st := s__law_book) lk16 co16 kp16
  have b16 := F16.binds (ps := ["draws", "first", "kind"]) fun _ _ _ _ _ _ us hl => match us, hl with | [_, _, _], _ => rfl
  have F17 := fun_mk (st := s__law_turned) lk17 co17 kp17
  have b17 := F17.binds (ps := ["draws", "first", "book"]) fun _ _ _ _ _ _ us hl => match us, hl with | [_, _, _], _ => rfl
  have F18 := fun_mk (st := s__law_raw) lk18 co18 kp18
  have b18 := F18.binds (ps := ["book", "length"]) fun _ _ _ _ _ _ us hl => match us, hl with | [_, _], _ => rfl
  have F19 := fun_mk (st := s__law_fare) lk19 co19 kp19
  have b19 := F19.binds (ps := ["book", "length"]) fun _ _ _ _ _ _ us hl => match us, hl with | [_, _], _ => rfl
  have F20 := fun_mk (st := s__law_first) lk20 co20 kp20
  have b20 := F20.binds (ps := ["one", "two", "word"]) fun _ _ _ _ _ _ us hl => match us, hl with | [_, _, _], _ => rfl
  have F21 := fun_mk (st := s__law_is_told) lk21 co21 kp21
  have b21 := F21.binds (ps := ["told", "due", "one", "two", "word"]) fun _ _ _ _ _ _ us hl => match us, hl with | [_, _, _, _, _], _ => rfl
  have F22 := fun_mk (st := s_law) lk22 co22 kp22
  let cl : Nat → Addr := fun i => if i = 0 then C0 else 0
  let T : Txt K mg cl := {
    a_is_tier := a0, d_is_tier := _, F_is_tier := F0,
    b_is_tier := b0,
    m_is_tier := PySem.W.mg_of X G at0,
    a_is_book := a1, d_is_book := _, F_is_book := F1,
    b_is_book := b1,
    m_is_book := PySem.W.mg_of X G at1,
    a_check_books := a2, d_check_books := _, F_check_books := F2,
    b_check_books := b2,
    m_check_books := PySem.W.mg_of X G at2,
    a_Piece___init__ := a3, d_Piece___init__ := _, F_Piece___init__ := F3,
    b_Piece___init__ := b3,
    a_units := a4, d_units := _, F_units := F4,
    b_units := b4,
    m_units := PySem.W.mg_of X G at4,
    a_Piece_fare := a5, d_Piece_fare := _, F_Piece_fare := F5,
    b_Piece_fare := b5,
    a_raw_pieces := a6, d_raw_pieces := _, F_raw_pieces := F6,
    b_raw_pieces := b6,
    m_raw_pieces := PySem.W.mg_of X G at6,
    a_first_above := a7, d_first_above := _, F_first_above := F7,
    b_first_above := b7,
    m_first_above := PySem.W.mg_of X G at7,
    a_pieces := a8, d_pieces := _, F_pieces := F8,
    b_pieces := b8,
    m_pieces := PySem.W.mg_of X G at8,
    a_piece_at := a9, d_piece_at := _, F_piece_at := F9,
    b_piece_at := b9,
    m_piece_at := PySem.W.mg_of X G at9,
    a_first_between := a10, d_first_between := _, F_first_between := F10,
    b_first_between := b10,
    m_first_between := PySem.W.mg_of X G at10,
    a_dearer := a11, d_dearer := _, F_dearer := F11,
    b_dearer := b11,
    m_dearer := PySem.W.mg_of X G at11,
    a_first_dearer := a12, d_first_dearer := _, F_first_dearer := F12,
    b_first_dearer := b12,
    m_first_dearer := PySem.W.mg_of X G at12,
    a_first_unlike := a13, d_first_unlike := _, F_first_unlike := F13,
    b_first_unlike := b13,
    m_first_unlike := PySem.W.mg_of X G at13,
    a__law_draws := a14, d__law_draws := _, F__law_draws := F14,
    b__law_draws := b14,
    m__law_draws := PySem.W.mg_of X G at14,
    a__law_mix := a15, d__law_mix := _, F__law_mix := F15,
    b__law_mix := b15,
    m__law_mix := PySem.W.mg_of X G at15,
    a__law_book := a16, d__law_book := _, F__law_book := F16,
    b__law_book := b16,
    m__law_book := PySem.W.mg_of X G at16,
    a__law_turned := a17, d__law_turned := _, F__law_turned := F17,
    b__law_turned := b17,
    m__law_turned := PySem.W.mg_of X G at17,
    a__law_raw := a18, d__law_raw := _, F__law_raw := F18,
    b__law_raw := b18,
    m__law_raw := PySem.W.mg_of X G at18,
    a__law_fare := a19, d__law_fare := _, F__law_fare := F19,
    b__law_fare := b19,
    m__law_fare := PySem.W.mg_of X G at19,
    a__law_first := a20, d__law_first := _, F__law_first := F20,
    b__law_first := b20,
    m__law_first := PySem.W.mg_of X G at20,
    a__law_is_told := a21, d__law_is_told := _, F__law_is_told := F21,
    b__law_is_told := b21,
    m__law_is_told := PySem.W.mg_of X G at21,
    a_law := fa, d_law := _, F_law := F22,
    m_law := PySem.W.mg_of X G at22,
    z_abs := PySem.W.mg_none_of X G z_abs,
    z_all := PySem.W.mg_none_of X G z_all,
    z_bool := PySem.W.mg_none_of X G z_bool,
    z_enumerate := PySem.W.mg_none_of X G z_enumerate,
    z_int := PySem.W.mg_none_of X G z_int,
    z_isinstance := PySem.W.mg_none_of X G z_isinstance,
    z_len := PySem.W.mg_none_of X G z_len,
    z_list := PySem.W.mg_none_of X G z_list,
    z_min := PySem.W.mg_none_of X G z_min,
    z_range := PySem.W.mg_none_of X G z_range,
    z_repr := PySem.W.mg_none_of X G z_repr,
    z_sorted := PySem.W.mg_none_of X G z_sorted,
    z_zip := PySem.W.mg_none_of X G z_zip,
    k_MOST_BASE := ⟨_, PySem.W.mg_of X G k_MOST_BASE⟩,
    k_MOST_CAP := ⟨_, PySem.W.mg_of X G k_MOST_CAP⟩,
    k_MOST_FIRST := ⟨_, PySem.W.mg_of X G k_MOST_FIRST⟩,
    k_MOST_PRICE := ⟨_, PySem.W.mg_of X G k_MOST_PRICE⟩,
    k_MOST_TIERS := ⟨_, PySem.W.mg_of X G k_MOST_TIERS⟩,
    k_MOST_UNIT := ⟨_, PySem.W.mg_of X G k_MOST_UNIT⟩,
    i_lcm := PySem.W.mg_of X G i_lcm,
    c_Piece := (⟨pg_Piece, hd_Piece, po_Piece, sa_Piece⟩ : Cls K C0),
    mk_Piece := (⟨ma_Piece, at3, is3, kc_Piece⟩ : Mk K C0 a3),
    m_Piece := PySem.W.mg_of X G ns_Piece,
    n_Piece_base := n_Piece_base,
    n_Piece_first := n_Piece_first,
    n_Piece_price := n_Piece_price,
    n_Piece_start := n_Piece_start,
    n_Piece_stop := n_Piece_stop,
    n_Piece_unit := n_Piece_unit,
    e_Piece_fare := (⟨at5, is5, kp5⟩ : Meth K C0 "fare" a5) }
  exact ⟨PySem.W.fnOf "law" "law" (defArgs s_law) (defBody s_law) (defScope s_law) .none kV22 dc22 pm22 an22 cd22 ct22, fun s v => .of_eq rfl, fun base _ _ => by
    have h := ok_top (P := P) (w := w) (base := base) T
    exact h⟩
/-- what is left of the law: plain mathematics -/
def Plain : Prop := ∀ ns : List Int, ns.length ≤ 63 → ∃ M, B_law (some (.rls (ns.map .int)) :: List.replicate (7 - 1) none) [] = some (.rt (.bl true), M)
theorem walk {l : PySem.W.OpenLaw} {q : Program} {loose : List Str} {XP : (Str → Option Value) → Heap → Prop} {YP : World → Heap → Prop} {d : DefRec} {K : Params → PySem.W.Frag} (plain : Plain) (hn : l.most = some 63) (hdf : d.params.defaults = []) (hr : Room 7 callerA)
    (hY : ∀ (w : World) (h : Heap), YP w h → (K w.params).In h)
    (F : ∀ (w : World) (mg : Str → Option Value) (fa : Addr) (h : Heap), (K w.params).In h → h.Ns mainGlobals mg → mg d.name = some (.ref fa) →
      ∃ fd : FuncData, (∀ (s : Shared) (u : Value), BindsTo s fd ⟨[u], []⟩ [("script", u)]) ∧ ∀ base : Heap, (K w.params).In base → base.Ns mainGlobals mg → FnG l.prog w (K w.params) mg base 7 fa fd ["script"] (SpLaw (K w.params) 7 B_law)) :
    PySem.W.WalkO q loose XP YP l.row.toRowW d [] (fun f vs => PySem.call f vs) :=
  walkG (n := 63) (k := 7) (x := "script") (sp := fun w => SpLaw (K w.params) 7 B_law) hn (by decide) hdf hr hY F fun _ _ a ns hl hO hS => ⟨a, ns, rfl, hS, hO, plain ns hl, fun _ => rfl⟩
end Y
set_option Elab.async false
set_option linter.all false
set_option maxRecDepth 100000
set_option maxHeartbeats 1000000
namespace Y
open PySem PySem.Spec PyProof.Rows L2
local macro_rules | `(tactic| walk_at "y") => `(tactic| simp only [r_res, r_var, r_var1, r_c, r_bin, r_bin1, r_bin2, r_un, r_un1, r_nil, r_cons, r_cons1, r_cons2, r_ca, r_ca1, r_call, r_call1, r_fld, r_fld1, r_meth, r_meth1, r_meth2, r_frz, r_frz1, r_mlt, r_mlt1, r_lst, r_lst1, r_tup, r_tup1, r_onone, r_osome, r_osome1, r_sl, r_sl1, r_sl2, r_sl3, r_sl3r, r_test, r_test1, r_tru, r_tru_bl, r_tru_int, r_tru_lst, r_tru_non, r_yes, r_and, r_and_t, r_and_f, r_or, r_or_t, r_or_f, r_not, r_not1, r_eand, r_eand_t, r_eand_f, r_eor, r_eor_t, r_eor_f, r_enot, r_enot1, r_eif, r_eif_t, r_eif_f, r_ch, r_ch1, r_ch2, r_ch3_t, r_ch3_f, r_ch4, r_gN, r_gnil, r_gcons, r_gs1, r_gT, r_gfld, r_gfld1, r_gfld2, r_gsub, r_gsub1, r_gsub2, r_gsub3, r_seq, r_seq_nx, r_seq_rt, r_seq_bk, r_seq_ct, r_next, r_asg, r_asg1, r_asg2, r_drop, r_drop1, r_ret, r_ret1, r_retN, r_if, r_if_t, r_if_f, r_brk, r_cnt, r_sfrz, r_sfrz_loc, r_sfrz_lst, r_sfrz2, r_sfld, r_sfld0, r_sfld1, r_sfld2, r_app, r_app1, r_app2, r_app3, r_for, r_for1, r_turn, r_turn1, r_lc, r_lc1, r_wipe0, r_wipe1, r_isq, r_isq_lst, r_isq_rls, r_isq_tup, r_isq_loc, r_isq2, r_ir1, r_ir11, r_ir2, r_ir21, r_ien, r_ien1, r_src_lst, r_src_rls, r_ien2, r_izp, r_izp1, r_add, r_adds, r_addl, r_sub, r_mul, r_fdiv, r_mod, r_pow, r_neg, r_lt, r_le, r_gt, r_ge, r_eq, r_ne, r_eqs, r_nes, r_isN_non, r_isN_int, r_isN_tup, r_notN_non, r_notN_int, r_notN_tup, r_ix_lst, r_ix_rls, r_ix_tup, r_len_lst, r_len_rls, r_len_tup, r_abs, r_int, r_intb, r_max2, r_min2, r_all, r_any, r_sum, r_srt, r_repr, r_pD_int, r_pD_non, r_pD_bl, r_pD_str, r_pD_lst, r_pD_rls, r_pD_tup, r_pD_obj, r_pL_nil, r_pL_cons, r_pF_nil, r_pF_cons, r_go_nil, r_go_cons, r_go1_nx, r_go1_ct, r_go1_bk, r_go1_rt, r_at0, r_at1, r_at2, r_lcm, r_min, r_min1, r_max, r_max1, r_seq_lst, r_seq_rls, r_seq_tup, r_star, r_star1, r_star2, r_star3, r_srtS, r_srtS1, r_srtS2, r_list, r_list1, r_list2, r_isi, r_isi1, r_isi2, r_isi3, r_ty_int, r_ty_bl, r_ty_non, r_ty_str, r_ty_lst, r_kit_int_int, r_kit_int_bool, r_kit_bool_int, r_kit_bool_bool, r_kit_NoneType_int, r_kit_NoneType_bool, r_kit_str_int, r_kit_str_bool, r_kit_list_int, r_kit_list_bool, r_lcg_nil, r_lcg, r_lcg1, r_lcg2_t, r_lcg2_f, r_lcg3, r_cast0, r_cast1, r_cast2, r_cast3, r_cast4, r_cast5, r_cast6, r_cast7, r_cast8, r_cast9, r_cast10, r_cast11, r_cast12, r_enum1, r_enum2, Option.map_some, intsOf_map, eq_self, List.getElem?_cons_zero, List.getElem?_cons_succ, List.set_cons_zero, List.set_cons_succ, List.map_cons, List.map_nil, List.length_cons, List.length_nil, List.length_append, List.append_assoc, List.cons_append, List.nil_append, List.append_nil, List.replicate, Nat.reduceAdd, Nat.reducePow, Nat.reduceSub, Nat.reduceLeDiff, Nat.reduceLT, Nat.reduceEqDiff, Bool.and_self, Bool.and_true, Bool.true_and, if_true, if_false, reduceIte, Bool.false_eq_true, true_and, and_true, Nat.add_zero, Nat.zero_add, decide_true, decide_false, Bool.not_true, Bool.not_false, Int.reduceNe, Int.reduceAbs, Int.reducePow, Int.reduceNeg, Int.reduceToNat, Int.reduceAdd, Int.reduceSub, Int.reduceMul, Int.reduceLE, Int.reduceLT, and_self, decide_eq_true_eq, ne_eq, not_false_eq_true, Int.reduceEq, List.length_map, false_and, and_false, Bool.and_false, Bool.false_and, List.replicate_succ, List.replicate_zero])
local macro_rules | `(tactic| walk_at "y*") => `(tactic| simp only [r_res, r_var, r_var1, r_c, r_bin, r_bin1, r_bin2, r_un, r_un1, r_nil, r_cons, r_cons1, r_cons2, r_ca, r_ca1, r_call, r_call1, r_fld, r_fld1, r_meth, r_meth1, r_meth2, r_frz, r_frz1, r_mlt, r_mlt1, r_lst, r_lst1, r_tup, r_tup1, r_onone, r_osome, r_osome1, r_sl, r_sl1, r_sl2, r_sl3, r_sl3r, r_test, r_test1, r_tru, r_tru_bl, r_tru_int, r_tru_lst, r_tru_non, r_yes, r_and, r_and_t, r_and_f, r_or, r_or_t, r_or_f, r_not, r_not1, r_eand, r_eand_t, r_eand_f, r_eor, r_eor_t, r_eor_f, r_enot, r_enot1, r_eif, r_eif_t, r_eif_f, r_ch, r_ch1, r_ch2, r_ch3_t, r_ch3_f, r_ch4, r_gN, r_gnil, r_gcons, r_gs1, r_gT, r_gfld, r_gfld1, r_gfld2, r_gsub, r_gsub1, r_gsub2, r_gsub3, r_seq, r_seq_nx, r_seq_rt, r_seq_bk, r_seq_ct, r_next, r_asg, r_asg1, r_asg2, r_drop, r_drop1, r_ret, r_ret1, r_retN, r_if, r_if_t, r_if_f, r_brk, r_cnt, r_sfrz, r_sfrz_loc, r_sfrz_lst, r_sfrz2, r_sfld, r_sfld0, r_sfld1, r_sfld2, r_app, r_app1, r_app2, r_app3, r_for, r_for1, r_turn, r_turn1, r_lc, r_lc1, r_wipe0, r_wipe1, r_isq, r_isq_lst, r_isq_rls, r_isq_tup, r_isq_loc, r_isq2, r_ir1, r_ir11, r_ir2, r_ir21, r_ien, r_ien1, r_src_lst, r_src_rls, r_ien2, r_izp, r_izp1, r_add, r_adds, r_addl, r_sub, r_mul, r_fdiv, r_mod, r_pow, r_neg, r_lt, r_le, r_gt, r_ge, r_eq, r_ne, r_eqs, r_nes, r_isN_non, r_isN_int, r_isN_tup, r_notN_non, r_notN_int, r_notN_tup, r_ix_lst, r_ix_rls, r_ix_tup, r_len_lst, r_len_rls, r_len_tup, r_abs, r_int, r_intb, r_max2, r_min2, r_all, r_any, r_sum, r_srt, r_repr, r_pD_int, r_pD_non, r_pD_bl, r_pD_str, r_pD_lst, r_pD_rls, r_pD_tup, r_pD_obj, r_pL_nil, r_pL_cons, r_pF_nil, r_pF_cons, r_go_nil, r_go_cons, r_go1_nx, r_go1_ct, r_go1_bk, r_go1_rt, r_at0, r_at1, r_at2, r_lcm, r_min, r_min1, r_max, r_max1, r_seq_lst, r_seq_rls, r_seq_tup, r_star, r_star1, r_star2, r_star3, r_srtS, r_srtS1, r_srtS2, r_list, r_list1, r_list2, r_isi, r_isi1, r_isi2, r_isi3, r_ty_int, r_ty_bl, r_ty_non, r_ty_str, r_ty_lst, r_kit_int_int, r_kit_int_bool, r_kit_bool_int, r_kit_bool_bool, r_kit_NoneType_int, r_kit_NoneType_bool, r_kit_str_int, r_kit_str_bool, r_kit_list_int, r_kit_list_bool, r_lcg_nil, r_lcg, r_lcg1, r_lcg2_t, r_lcg2_f, r_lcg3, r_cast0, r_cast1, r_cast2, r_cast3, r_cast4, r_cast5, r_cast6, r_cast7, r_cast8, r_cast9, r_cast10, r_cast11, r_cast12, r_enum1, r_enum2, Option.map_some, intsOf_map, eq_self, List.getElem?_cons_zero, List.getElem?_cons_succ, List.set_cons_zero, List.set_cons_succ, List.map_cons, List.map_nil, List.length_cons, List.length_nil, List.length_append, List.append_assoc, List.cons_append, List.nil_append, List.append_nil, List.replicate, Nat.reduceAdd, Nat.reducePow, Nat.reduceSub, Nat.reduceLeDiff, Nat.reduceLT, Nat.reduceEqDiff, Bool.and_self, Bool.and_true, Bool.true_and, if_true, if_false, reduceIte, Bool.false_eq_true, true_and, and_true, Nat.add_zero, Nat.zero_add, decide_true, decide_false, Bool.not_true, Bool.not_false, Int.reduceNe, Int.reduceAbs, Int.reducePow, Int.reduceNeg, Int.reduceToNat, Int.reduceAdd, Int.reduceSub, Int.reduceMul, Int.reduceLE, Int.reduceLT, and_self, decide_eq_true_eq, ne_eq, not_false_eq_true, Int.reduceEq, List.length_map, false_and, and_false, Bool.and_false, Bool.false_and, List.replicate_succ, List.replicate_zero, *])
def cdiv (l u : Int) : Int := -((-l).fdiv u)
theorem run_units {l u : Int} (h0 : ¬ u = 0) (h1 : u.natAbs < 1073741824) : f_units [.int l, .int u] = some (.int (cdiv l u)) := by
  refine runP_rt (d := .int (cdiv l u)) (M := []) ?_ (fz1_pure rfl)
  unfold B_units
  walk_at "y*"
  rfl
structure Pc where
  start : Int
  stop : Option Int
  base : Int
  first : Int
  unit : Int
  price : Int
def encO : Option Int → D
  | none => .non
  | some c => .int c
theorem encO_n : encO none = .non := rfl
theorem encO_s {c : Int} : encO (some c) = .int c := rfl
def encPc (p : Pc) : D := .obj 0 [("start", .int p.start), ("stop", encO p.stop), ("base", .int p.base), ("first", .int p.first), ("unit", .int p.unit), ("price", .int p.price)]
def Pc.fare (p : Pc) (l : Int) : Int := p.base + p.price * cdiv (l - p.first) p.unit
theorem pure_encO (o : Option Int) : pureD (encO o) = true := by cases o <;> simp [encO, pureD]
theorem pure_encPc (p : Pc) : pureD (encPc p) = true := by simp [encPc, pureD, pureF, pure_encO]
theorem run_init {a b c d e : Int} {o : Option Int} : f_Piece___init__ [.int a, encO o, .int b, .tup [.int c, .int d, .int e]] = some (encPc ⟨a, o, b, c, d, e⟩) := by
  cases o <;> rfl
theorem run_init_n {a b c d e : Int} : f_Piece___init__ [.int a, .non, .int b, .tup [.int c, .int d, .int e]] = some (encPc ⟨a, none, b, c, d, e⟩) := run_init (o := none)
theorem run_init_s {a s b c d e : Int} : f_Piece___init__ [.int a, .int s, .int b, .tup [.int c, .int d, .int e]] = some (encPc ⟨a, some s, b, c, d, e⟩) := run_init (o := some s)
section
variable {q : Pc} {M : Sto} {p : List D → Option D} {Aa : EA} {ρ : Rho}
theorem pc_start : fld1 0 "start" (some (encPc q, M)) = some (.int q.start, M) := rfl
theorem pc_stop : fld1 0 "stop" (some (encPc q, M)) = some (encO q.stop, M) := rfl
theorem pc_base : fld1 0 "base" (some (encPc q, M)) = some (.int q.base, M) := rfl
theorem pc_first : fld1 0 "first" (some (encPc q, M)) = some (.int q.first, M) := rfl
theorem pc_unit : fld1 0 "unit" (some (encPc q, M)) = some (.int q.unit, M) := rfl
theorem pc_price : fld1 0 "price" (some (encPc q, M)) = some (.int q.price, M) := rfl
theorem pc_fare : meth1 0 "fare" p Aa ρ (some (encPc q, M)) = meth2 p (encPc q) (Aa ρ M) := by
  have h := pure_encPc q
  unfold encPc at h
  rw [r_pD_obj] at h
  exact r_meth1.trans (if_pos ⟨rfl, h⟩)
end
local macro_rules | `(tactic| walk_at "p") => `(tactic| simp only [r_res, r_var, r_var1, r_c, r_bin, r_bin1, r_bin2, r_un, r_un1, r_nil, r_cons, r_cons1, r_cons2, r_ca, r_ca1, r_call, r_call1, r_fld, r_fld1, r_meth, r_meth1, r_meth2, r_frz, r_frz1, r_mlt, r_mlt1, r_lst, r_lst1, r_tup, r_tup1, r_onone, r_osome, r_osome1, r_sl, r_sl1, r_sl2, r_sl3, r_sl3r, r_test, r_test1, r_tru, r_tru_bl, r_tru_int, r_tru_lst, r_tru_non, r_yes, r_and, r_and_t, r_and_f, r_or, r_or_t, r_or_f, r_not, r_not1, r_eand, r_eand_t, r_eand_f, r_eor, r_eor_t, r_eor_f, r_enot, r_enot1, r_eif, r_eif_t, r_eif_f, r_ch, r_ch1, r_ch2, r_ch3_t, r_ch3_f, r_ch4, r_gN, r_gnil, r_gcons, r_gs1, r_gT, r_gfld, r_gfld1, r_gfld2, r_gsub, r_gsub1, r_gsub2, r_gsub3, r_seq, r_seq_nx, r_seq_rt, r_seq_bk, r_seq_ct, r_next, r_asg, r_asg1, r_asg2, r_drop, r_drop1, r_ret, r_ret1, r_retN, r_if, r_if_t, r_if_f, r_brk, r_cnt, r_sfrz, r_sfrz_loc, r_sfrz_lst, r_sfrz2, r_sfld, r_sfld0, r_sfld1, r_sfld2, r_app, r_app1, r_app2, r_app3, r_for, r_for1, r_turn, r_turn1, r_lc, r_lc1, r_wipe0, r_wipe1, r_isq, r_isq_lst, r_isq_rls, r_isq_tup, r_isq_loc, r_isq2, r_ir1, r_ir11, r_ir2, r_ir21, r_ien, r_ien1, r_src_lst, r_src_rls, r_ien2, r_izp, r_izp1, r_add, r_adds, r_addl, r_sub, r_mul, r_fdiv, r_mod, r_pow, r_neg, r_lt, r_le, r_gt, r_ge, r_eq, r_ne, r_eqs, r_nes, r_isN_non, r_isN_int, r_isN_tup, r_notN_non, r_notN_int, r_notN_tup, r_ix_lst, r_ix_rls, r_ix_tup, r_len_lst, r_len_rls, r_len_tup, r_abs, r_int, r_intb, r_max2, r_min2, r_all, r_any, r_sum, r_srt, r_repr, r_pD_int, r_pD_non, r_pD_bl, r_pD_str, r_pD_lst, r_pD_rls, r_pD_tup, r_pD_obj, r_pL_nil, r_pL_cons, r_pF_nil, r_pF_cons, r_go_nil, r_go_cons, r_go1_nx, r_go1_ct, r_go1_bk, r_go1_rt, r_at0, r_at1, r_at2, r_lcm, r_min, r_min1, r_max, r_max1, r_seq_lst, r_seq_rls, r_seq_tup, r_star, r_star1, r_star2, r_star3, r_srtS, r_srtS1, r_srtS2, r_list, r_list1, r_list2, r_isi, r_isi1, r_isi2, r_isi3, r_ty_int, r_ty_bl, r_ty_non, r_ty_str, r_ty_lst, r_kit_int_int, r_kit_int_bool, r_kit_bool_int, r_kit_bool_bool, r_kit_NoneType_int, r_kit_NoneType_bool, r_kit_str_int, r_kit_str_bool, r_kit_list_int, r_kit_list_bool, r_lcg_nil, r_lcg, r_lcg1, r_lcg2_t, r_lcg2_f, r_lcg3, r_cast0, r_cast1, r_cast2, r_cast3, r_cast4, r_cast5, r_cast6, r_cast7, r_cast8, r_cast9, r_cast10, r_cast11, r_cast12, r_enum1, r_enum2, Option.map_some, intsOf_map, eq_self, List.getElem?_cons_zero, List.getElem?_cons_succ, List.set_cons_zero, List.set_cons_succ, List.map_cons, List.map_nil, List.length_cons, List.length_nil, List.length_append, List.append_assoc, List.cons_append, List.nil_append, List.append_nil, List.replicate, Nat.reduceAdd, Nat.reducePow, Nat.reduceSub, Nat.reduceLeDiff, Nat.reduceLT, Nat.reduceEqDiff, Bool.and_self, Bool.and_true, Bool.true_and, if_true, if_false, reduceIte, Bool.false_eq_true, true_and, and_true, Nat.add_zero, Nat.zero_add, decide_true, decide_false, Bool.not_true, Bool.not_false, Int.reduceNe, Int.reduceAbs, Int.reducePow, Int.reduceNeg, Int.reduceToNat, Int.reduceAdd, Int.reduceSub, Int.reduceMul, Int.reduceLE, Int.reduceLT, and_self, decide_eq_true_eq, ne_eq, not_false_eq_true, Int.reduceEq, List.length_map, false_and, and_false, Bool.and_false, Bool.false_and, List.replicate_succ, List.replicate_zero, run_init_n, run_init_s, pc_start, pc_stop, pc_base, pc_first, pc_unit, pc_price, pc_fare, pure_encPc, pure_encO, run_init, encO_n, encO_s])
local macro_rules | `(tactic| walk_at "p*") => `(tactic| simp only [r_res, r_var, r_var1, r_c, r_bin, r_bin1, r_bin2, r_un, r_un1, r_nil, r_cons, r_cons1, r_cons2, r_ca, r_ca1, r_call, r_call1, r_fld, r_fld1, r_meth, r_meth1, r_meth2, r_frz, r_frz1, r_mlt, r_mlt1, r_lst, r_lst1, r_tup, r_tup1, r_onone, r_osome, r_osome1, r_sl, r_sl1, r_sl2, r_sl3, r_sl3r, r_test, r_test1, r_tru, r_tru_bl, r_tru_int, r_tru_lst, r_tru_non, r_yes, r_and, r_and_t, r_and_f, r_or, r_or_t, r_or_f, r_not, r_not1, r_eand, r_eand_t, r_eand_f, r_eor, r_eor_t, r_eor_f, r_enot, r_enot1, r_eif, r_eif_t, r_eif_f, r_ch, r_ch1, r_ch2, r_ch3_t, r_ch3_f, r_ch4, r_gN, r_gnil, r_gcons, r_gs1, r_gT, r_gfld, r_gfld1, r_gfld2, r_gsub, r_gsub1, r_gsub2, r_gsub3, r_seq, r_seq_nx, r_seq_rt, r_seq_bk, r_seq_ct, r_next, r_asg, r_asg1, r_asg2, r_drop, r_drop1, r_ret, r_ret1, r_retN, r_if, r_if_t, r_if_f, r_brk, r_cnt, r_sfrz, r_sfrz_loc, r_sfrz_lst, r_sfrz2, r_sfld, r_sfld0, r_sfld1, r_sfld2, r_app, r_app1, r_app2, r_app3, r_for, r_for1, r_turn, r_turn1, r_lc, r_lc1, r_wipe0, r_wipe1, r_isq, r_isq_lst, r_isq_rls, r_isq_tup, r_isq_loc, r_isq2, r_ir1, r_ir11, r_ir2, r_ir21, r_ien, r_ien1, r_src_lst, r_src_rls, r_ien2, r_izp, r_izp1, r_add, r_adds, r_addl, r_sub, r_mul, r_fdiv, r_mod, r_pow, r_neg, r_lt, r_le, r_gt, r_ge, r_eq, r_ne, r_eqs, r_nes, r_isN_non, r_isN_int, r_isN_tup, r_notN_non, r_notN_int, r_notN_tup, r_ix_lst, r_ix_rls, r_ix_tup, r_len_lst, r_len_rls, r_len_tup, r_abs, r_int, r_intb, r_max2, r_min2, r_all, r_any, r_sum, r_srt, r_repr, r_pD_int, r_pD_non, r_pD_bl, r_pD_str, r_pD_lst, r_pD_rls, r_pD_tup, r_pD_obj, r_pL_nil, r_pL_cons, r_pF_nil, r_pF_cons, r_go_nil, r_go_cons, r_go1_nx, r_go1_ct, r_go1_bk, r_go1_rt, r_at0, r_at1, r_at2, r_lcm, r_min, r_min1, r_max, r_max1, r_seq_lst, r_seq_rls, r_seq_tup, r_star, r_star1, r_star2, r_star3, r_srtS, r_srtS1, r_srtS2, r_list, r_list1, r_list2, r_isi, r_isi1, r_isi2, r_isi3, r_ty_int, r_ty_bl, r_ty_non, r_ty_str, r_ty_lst, r_kit_int_int, r_kit_int_bool, r_kit_bool_int, r_kit_bool_bool, r_kit_NoneType_int, r_kit_NoneType_bool, r_kit_str_int, r_kit_str_bool, r_kit_list_int, r_kit_list_bool, r_lcg_nil, r_lcg, r_lcg1, r_lcg2_t, r_lcg2_f, r_lcg3, r_cast0, r_cast1, r_cast2, r_cast3, r_cast4, r_cast5, r_cast6, r_cast7, r_cast8, r_cast9, r_cast10, r_cast11, r_cast12, r_enum1, r_enum2, Option.map_some, intsOf_map, eq_self, List.getElem?_cons_zero, List.getElem?_cons_succ, List.set_cons_zero, List.set_cons_succ, List.map_cons, List.map_nil, List.length_cons, List.length_nil, List.length_append, List.append_assoc, List.cons_append, List.nil_append, List.append_nil, List.replicate, Nat.reduceAdd, Nat.reducePow, Nat.reduceSub, Nat.reduceLeDiff, Nat.reduceLT, Nat.reduceEqDiff, Bool.and_self, Bool.and_true, Bool.true_and, if_true, if_false, reduceIte, Bool.false_eq_true, true_and, and_true, Nat.add_zero, Nat.zero_add, decide_true, decide_false, Bool.not_true, Bool.not_false, Int.reduceNe, Int.reduceAbs, Int.reducePow, Int.reduceNeg, Int.reduceToNat, Int.reduceAdd, Int.reduceSub, Int.reduceMul, Int.reduceLE, Int.reduceLT, and_self, decide_eq_true_eq, ne_eq, not_false_eq_true, Int.reduceEq, List.length_map, false_and, and_false, Bool.and_false, Bool.false_and, List.replicate_succ, List.replicate_zero, run_init_n, run_init_s, pc_start, pc_stop, pc_base, pc_first, pc_unit, pc_price, pc_fare, pure_encPc, pure_encO, run_init, encO_n, encO_s, *])
theorem run_fare {q : Pc} {l : Int} (h0 : ¬ q.unit = 0) (h1 : q.unit.natAbs < 1073741824) (h2 : mulOk q.price (cdiv (l - q.first) q.unit) = true) : f_Piece_fare [encPc q, .int l] = some (.int (q.fare l)) := by
  refine runP_rt (d := .int (q.fare l)) (M := []) ?_ (fz1_pure rfl)
  unfold B_Piece_fare
  have := run_units (l := l - q.first) h0 h1
  walk_at "p*"
  rfl
theorem run_tier {a b c : Int} : f_is_tier [.tup [.int a, .int b, .int c]] = some (.bl (decide (0 ≤ a ∧ a ≤ 300 ∧ 1 ≤ b ∧ b ≤ 60 ∧ 0 ≤ c ∧ c ≤ 1000))) := by
  refine runP_rt (M := []) (d := .bl (decide (0 ≤ a ∧ a ≤ 300 ∧ 1 ≤ b ∧ b ≤ 60 ∧ 0 ≤ c ∧ c ≤ 1000))) ?_ (fz1_pure rfl)
  unfold B_is_tier
  by_cases h1 : 0 ≤ a
  · by_cases h2 : a ≤ 300
    · by_cases h3 : 1 ≤ b
      · by_cases h4 : b ≤ 60
        · by_cases h5 : 0 ≤ c
          · walk_at "y*"
          · walk_at "y*"
        · walk_at "y*"
      · walk_at "y*"
    · walk_at "y*"
  · walk_at "y*"
/-! ### books -/
structure Bk where
  base : Int
  tiers : List (Int × Int × Int)
  cap : Option Int
def encT (t : Int × Int × Int) : D := .tup [.int t.1, .int t.2.1, .int t.2.2]
def encB (b : Bk) : D := .tup [.int b.base, .lst (b.tiers.map encT), encO b.cap]
theorem pure_encT (t : Int × Int × Int) : pureD (encT t) = true := by simp [encT, pureD, pureL]
theorem pure_encTs (ts : List (Int × Int × Int)) : pureL (ts.map encT) = true := pureL_map pure_encT
theorem pure_encB (b : Bk) : pureD (encB b) = true := by simp [encB, pureD, pureL, pure_encO, pure_encTs]
def tierOk (t : Int × Int × Int) : Bool := decide (0 ≤ t.1 ∧ t.1 ≤ 300 ∧ 1 ≤ t.2.1 ∧ t.2.1 ≤ 60 ∧ 0 ≤ t.2.2 ∧ t.2.2 ≤ 1000)
def capOk : Option Int → Bool
  | none => true
  | some c => decide (0 ≤ c ∧ c ≤ 1000000)
def firsts (b : Bk) : List Int := b.tiers.map (·.1)
def ascB (xs : List Int) : Bool := ((xs.zip (xs.drop 1)).map fun p => decide (p.1 < p.2)).all id
def isBook (b : Bk) : Bool := decide (0 ≤ b.base ∧ b.base ≤ 100000) && decide (1 ≤ (b.tiers.length : Int) ∧ (b.tiers.length : Int) ≤ 5) && (b.tiers.map tierOk).all id && (decide ((firsts b).headD 0 = 0) && ascB (firsts b)) && capOk b.cap
theorem zipD_ints (xs ys : List Int) : zipD (xs.map .int) (ys.map .int) = (xs.zip ys).map fun p => .tup [.int p.1, .int p.2] := by
  unfold zipD
  induction xs generalizing ys with
  | nil => rfl
  | cons x xs ih =>
    cases ys with
    | nil => rfl
    | cons y ys => simp [ih]
theorem cut1 (xs : List D) : cutD xs (some 1) none = xs.drop 1 := by
  unfold cutD
  rw [show HT.sIx xs.length 0 (some 1) = min 1 xs.length from HT.sIx_nat xs.length 0 1, HT.sIx_none]
  cases xs with
  | nil => rfl
  | cons x r =>
    rw [show min 1 (x :: r).length = 1 by simp]
    exact List.take_of_length_le (by simp)
theorem run_book (b : Bk) : f_is_book [encB b] = some (.bl (isBook b)) := by
  refine runP_rt (M := []) (d := .bl (isBook b)) ?_ (fz1_pure rfl)
  unfold B_is_book encB
  by_cases h0 : 0 ≤ b.base
  case neg =>
    have e : isBook b = false := by unfold isBook; rw [decide_eq_false (fun z => h0 z.1)]; rfl
    rw [e]
    walk_at "y*"
  by_cases h1 : b.base ≤ 100000
  case neg =>
    have e : isBook b = false := by unfold isBook; rw [decide_eq_false (fun z => h1 z.2)]; rfl
    rw [e]
    walk_at "y*"
  by_cases h2 : 1 ≤ (b.tiers.length : Int)
  case neg =>
    have e : isBook b = false := by unfold isBook; rw [decide_eq_false (fun z : 1 ≤ (b.tiers.length : Int) ∧ _ => h2 z.1), Bool.and_false]; rfl
    rw [e]
    walk_at "y*"
  by_cases h3 : (b.tiers.length : Int) ≤ 5
  case neg =>
    have e : isBook b = false := by unfold isBook; rw [decide_eq_false (fun z : 1 ≤ (b.tiers.length : Int) ∧ _ => h3 z.2), Bool.and_false]; rfl
    rw [e]
    walk_at "y*"
  have hz : b.tiers.length ≤ 1000000 := by omega
  have c1 : ∀ a0 a1 a2 a3 a4 a5 a6 a7 a8 a9 : Option D, lcGo (gN 5) bYes (eCall f_is_tier (aCons (eVar 5) aNil)) none [a0, a1, a2, a3, a4, a5, a6, a7, a8, a9] (b.tiers.map encT) [] [] = some (b.tiers.map fun t => .bl (tierOk t), []) := by
    intro a0 a1 a2 a3 a4 a5 a6 a7 a8 a9
    refine lcGo_map encT (fun t => .bl (tierOk t)) _ _ fun t _ => ⟨_, rfl, ?_⟩
    have := run_tier (a := t.1) (b := t.2.1) (c := t.2.2)
    unfold encT
    walk_at "y*"
    rfl
  have c2 : ∀ a0 a1 a2 a3 a4 a5 a6 a7 a8 a9 : Option D, lcGo (gT 3 (gsCons (gN 6) (gsCons (gN 7) (gsCons (gN 7) gsNil)))) bYes (eVar 6) none [a0, a1, a2, a3, a4, a5, a6, a7, a8, a9] (b.tiers.map encT) [] [] = some ((firsts b).map .int, []) := by
    intro a0 a1 a2 a3 a4 a5 a6 a7 a8 a9
    unfold firsts
    rw [List.map_map]
    exact lcGo_map encT (fun t => .int t.1) _ _ fun t _ => ⟨_, rfl, rfl⟩
  have c3 : ∀ a0 a1 a2 a3 a4 a5 a6 a7 a8 a9 : Option D, lcGo (gT 2 (gsCons (gN 8) (gsCons (gN 9) gsNil))) bYes (eBin oLt (eVar 8) (eVar 9)) none [a0, a1, a2, a3, a4, a5, a6, a7, a8, a9] (zipD ((firsts b).map .int) (((firsts b).map .int).drop 1)) [] [] =
      some (((((firsts b).zip ((firsts b).drop 1)).map fun p => decide (p.1 < p.2)).map .bl), []) := by
    intro a0 a1 a2 a3 a4 a5 a6 a7 a8 a9
    rw [← List.map_drop, zipD_ints, List.map_map]
    exact lcGo_map (fun p : Int × Int => .tup [.int p.1, .int p.2]) (fun p => .bl (decide (p.1 < p.2))) _ _ fun p _ => ⟨_, rfl, rfl⟩
  have b1 : bitsOf (b.tiers.map fun t => D.bl (tierOk t)) = some (b.tiers.map tierOk) := by
    rw [show (b.tiers.map fun t => D.bl (tierOk t)) = (b.tiers.map tierOk).map .bl by simp]
    exact bitsOf_map _
  have b3 := bitsOf_map (((firsts b).zip ((firsts b).drop 1)).map fun p => decide (p.1 < p.2))
  have p1 := pure_encTs b.tiers
  have lf : (firsts b).length = b.tiers.length := by simp [firsts]
  have lz : (zipD ((firsts b).map .int) (((firsts b).map .int).drop 1)).length ≤ 1000000 := by
    simp [zipD, lf]; omega
  cases h4 : (b.tiers.map tierOk).all id with
  | false =>
    have e : isBook b = false := by unfold isBook; rw [h4, Bool.and_false]; rfl
    rw [e]
    walk_at "y*"
  | true =>
    have i0 : atI ((firsts b).map D.int) 0 = some (.int ((firsts b).headD 0)) := by
      cases hq : firsts b with
      | nil => rw [hq] at lf; simp at lf; omega
      | cons x r => exact atI_nat (j := 0) rfl
    by_cases hd : (firsts b).headD 0 = 0
    case neg =>
      have e : isBook b = false := by unfold isBook; rw [decide_eq_false hd, Bool.false_and, Bool.and_false, Bool.false_and]
      rw [e]
      walk_at "y*"
    cases h6 : ascB (firsts b) with
    | false =>
      have e : isBook b = false := by unfold isBook; rw [h6, Bool.and_false, Bool.and_false, Bool.false_and]
      unfold ascB at h6
      rw [e]
      have ct := cut1 ((firsts b).map D.int)
      walk_at "y*"
    | true =>
      have e : isBook b = capOk b.cap := by unfold isBook; rw [h6, h4, hd]; simp [h0, h1, h2, h3]
      unfold ascB at h6
      rw [e]
      have ct := cut1 ((firsts b).map D.int)
      cases hcap : b.cap with
      | none =>
        unfold capOk encO
        walk_at "y*"
      | some c =>
        unfold capOk encO
        by_cases g1 : 0 ≤ c
        · by_cases g2 : c ≤ 1000000
          · walk_at "y*"
          · walk_at "y*"
        · walk_at "y*"
theorem run_check {b : Bk} (h : isBook b = true) : f_check_books [.lst [encB b]] = some .non := by
  have := run_book b
  have p := pure_encB b
  refine runP_nx (ρ := [some (.lst [encB b]), some (.int 0), some (encB b)]) (M := []) ?_
  unfold B_check_books
  walk_at "y*"
structure TierOk (t : Int × Int × Int) : Prop where
  f0 : 0 ≤ t.1
  f1 : t.1 ≤ 300
  u0 : 1 ≤ t.2.1
  u1 : t.2.1 ≤ 60
  p0 : 0 ≤ t.2.2
  p1 : t.2.2 ≤ 1000
def rp : Int → List (Int × Int × Int) → List Pc
  | _, [] => []
  | b, [t] => [⟨t.1 + 1, none, b, t.1, t.2.1, t.2.2⟩]
  | b, t :: t2 :: r => ⟨t.1 + 1, some t2.1, b, t.1, t.2.1, t.2.2⟩ :: rp (b + t.2.2 * cdiv (t2.1 - t.1) t.2.1) (t2 :: r)
def rawPcs (b : Bk) : List Pc := ⟨0, some 0, b.base, 0, 1, 0⟩ :: rp b.base b.tiers
theorem pure_pcs (ps : List Pc) : pureL (ps.map encPc) = true := pureL_map pure_encPc
theorem run_raw (b : Bk) (hb : ∀ t ∈ b.tiers, TierOk t) (hl : b.tiers.length ≤ 5) : f_raw_pieces [encB b] = some (.lst ((rawPcs b).map encPc)) := by
  have fin : ∃ M1, B_raw_pieces [some (encB b), none, none, none, none, none, none, none, none] [] = some (.rt (.lst ((rawPcs b).map encPc)), M1) := by
    have loop : ∀ a5 a6 a7 a8, ∃ ρ1 M1, forGo (gT 2 (gsCons (gN 5) (gsCons (gN 6) (gsNil)))) (sSeq (sAsg (eC .non) (gN 7))
  (sSeq (sIf (bTest (eBin oLt (eBin oAdd (eVar 5) (eC (.int 1))) (eCa cLen (aCons (eVar 2) (aNil))))) (sAsg (eBin oIx (eBin oIx (eVar 2) (eBin oAdd (eVar 5) (eC (.int 1)))) (eC (.int 0))) (gN 7)) (sNext))
  (sSeq (sAsg (eCall f_Piece___init__ (aCons (eBin oAdd (eBin oIx (eVar 6) (eC (.int 0))) (eC (.int 1))) (aCons (eVar 7) (aCons (eVar 1) (aCons (eVar 6) (aNil)))))) (gN 8))
  (sSeq (sDrop (eApp (eVar 4) (eVar 8)))
  (sIf (bTest (eBin oNotN (eVar 7) (eC .non))) (sAsg (eMeth 0 "fare" f_Piece_fare (eVar 8) (aCons (eVar 7) (aNil))) (gN 1)) (sNext)))))) none (enumD (b.tiers.map encT)) [some (encB b), some (.int b.base), some (.lst (b.tiers.map encT)), some (encO b.cap), some (.loc 0), a5, a6, a7, a8] [.lst [encPc ⟨0, some 0, b.base, 0, 1, 0⟩]] = some (.nx ρ1, M1) ∧
        ∃ base found a5 a6 a7 a8, ρ1 = [some (encB b), some (.int base), some (.lst (b.tiers.map encT)), some (encO b.cap), some (.loc 0), a5, a6, a7, a8] ∧ M1 = [.lst (found.map encPc)] ∧ found ++ rp base (b.tiers.drop (0 + (enumD (b.tiers.map encT)).length)) = rawPcs b ∧ found.length = (0 + (enumD (b.tiers.map encT)).length) + 1 := by
      intro a5 a6 a7 a8
      refine forGo_inv (fun i ρ M => ∃ base found a5 a6 a7 a8, ρ = [some (encB b), some (.int base), some (.lst (b.tiers.map encT)), some (encO b.cap), some (.loc 0), a5, a6, a7, a8] ∧ M = [.lst (found.map encPc)] ∧ found ++ rp base (b.tiers.drop i) = rawPcs b ∧ found.length = i + 1) _ 0 _ _ ?_ ?_
      · rintro i d ρ M hd ⟨base, found, a5, a6, a7, a8, rfl, rfl, hf, hn⟩
        rw [Nat.zero_add] at hf hn ⊢
        obtain ⟨x, hx, rfl⟩ := enum_get hd
        rw [List.getElem?_map] at hx
        obtain ⟨t, ht, rfl⟩ := map_eq hx
        have ok := hb t (List.mem_of_getElem? ht)
        have hi := (List.getElem?_eq_some_iff.mp ht).1
        have hlen : (found.map encPc).length < 1000000 := by simp; omega
        rw [List.length_map, hn] at hlen
        have hdr : b.tiers.drop i = t :: b.tiers.drop (i + 1) := by
          rw [List.drop_eq_getElem_cons hi, (List.getElem?_eq_some_iff.mp ht).2]
        by_cases hc : i + 1 < b.tiers.length
        · obtain ⟨t2, ht2⟩ : ∃ t2, b.tiers[i + 1]? = some t2 := ⟨_, List.getElem?_eq_getElem hc⟩
          have hc' : ((i : Int) + 1 < (b.tiers.length : Int)) = True := eq_true (by omega)
          have hix : atI (b.tiers.map encT) ((i : Int) + 1) = some (encT t2) := atI_map ht2 (by omega)
          unfold encT at hix
          have hfare := run_fare (q := ⟨t.1 + 1, some t2.1, base, t.1, t.2.1, t.2.2⟩) (l := t2.1) (by have := ok.u0; simp; omega) (by have := ok.u0; have := ok.u1; simp; omega) (mulOk_l (by have := ok.p0; simp; omega) (by have := ok.p1; simp; omega))
          have hdr2 : b.tiers.drop (i + 1) = t2 :: b.tiers.drop (i + 2) := by
            rw [List.drop_eq_getElem_cons hc, (List.getElem?_eq_some_iff.mp ht2).2]
          refine ⟨[some (encB b), some (.int (Pc.fare ⟨t.1 + 1, some t2.1, base, t.1, t.2.1, t.2.2⟩ t2.1)), some (.lst (b.tiers.map encT)), some (encO b.cap), some (.loc 0), some (.int i), some (encT t), some (.int t2.1), some (encPc ⟨t.1 + 1, some t2.1, base, t.1, t.2.1, t.2.2⟩)], [.lst ((found.map encPc) ++ [encPc ⟨t.1 + 1, some t2.1, base, t.1, t.2.1, t.2.2⟩])], ?_, _, found ++ [⟨t.1 + 1, some t2.1, base, t.1, t.2.1, t.2.2⟩], _, _, _, _, rfl, ?_, ?_, ?_⟩
          · unfold encT
            walk_at "p*"
          · simp
          · rw [hdr, hdr2] at hf
            rw [← hf, hdr2, List.append_assoc]
            rfl
          · simp [hn]
        · have hc' : ((i : Int) + 1 < (b.tiers.length : Int)) = False := eq_false (by omega)
          have hdr2 : b.tiers.drop (i + 1) = [] := List.drop_eq_nil_of_le (by omega)
          refine ⟨[some (encB b), some (.int base), some (.lst (b.tiers.map encT)), some (encO b.cap), some (.loc 0), some (.int i), some (encT t), some .non, some (encPc ⟨t.1 + 1, none, base, t.1, t.2.1, t.2.2⟩)], [.lst ((found.map encPc) ++ [encPc ⟨t.1 + 1, none, base, t.1, t.2.1, t.2.2⟩])], ?_, _, found ++ [⟨t.1 + 1, none, base, t.1, t.2.1, t.2.2⟩], _, _, _, _, rfl, ?_, ?_, ?_⟩
          · unfold encT
            walk_at "p*"
          · simp
          · rw [hdr, hdr2] at hf
            rw [← hf, hdr2, List.append_assoc]
            rfl
          · simp [hn]
      · exact ⟨b.base, [⟨0, some 0, b.base, 0, 1, 0⟩], a5, a6, a7, a8, rfl, rfl, rfl, rfl⟩
    obtain ⟨ρ1, M1, hl1, base, found, a5, a6, a7, a8, e1, e2, hf, hn⟩ := loop none none none none
    have en : (enumD (b.tiers.map encT)).length = b.tiers.length := by simp [enumD]
    rw [en, Nat.zero_add, List.drop_length] at hf
    have hfd : found = rawPcs b := by
      rw [← hf]
      exact (List.append_nil _).symm
    rw [hfd] at e2
    have pp := pure_pcs (rawPcs b)
    have ht : (1 : Nat) ≤ 1000000 := by decide
    have pb := pure_encTs b.tiers
    rw [e1, e2] at hl1
    refine ⟨[.dead], ?_⟩
    unfold B_raw_pieces
    unfold encB
    unfold encB at hl1
    walk_at "p*"
  obtain ⟨M1, h⟩ := fin
  exact runP_rt h (fz1_pure (by rw [r_pD_lst]; exact pure_pcs _))
structure PcOk (p : Pc) : Prop where
  u0 : 1 ≤ p.unit
  u1 : p.unit ≤ 60
  p0 : 0 ≤ p.price
  p1 : p.price ≤ 1000
theorem rp_ok : ∀ (base : Int) (ts : List (Int × Int × Int)), (∀ t ∈ ts, TierOk t) → ∀ p ∈ rp base ts, PcOk p
  | _, [], _ => by simp [rp]
  | _, [t], h => by
    have := h t (by simp)
    simp only [rp, List.mem_singleton, forall_eq]
    exact ⟨this.u0, this.u1, this.p0, this.p1⟩
  | b, t :: t2 :: r, h => by
    have := h t (by simp)
    have ih := rp_ok (b + t.2.2 * cdiv (t2.1 - t.1) t.2.1) (t2 :: r) fun x hx => h x (List.mem_cons_of_mem _ hx)
    intro p hp
    rw [rp] at hp
    rcases List.mem_cons.mp hp with rfl | hp
    · exact ⟨this.u0, this.u1, this.p0, this.p1⟩
    · exact ih p hp
theorem rawPcs_ok (b : Bk) (h : ∀ t ∈ b.tiers, TierOk t) : ∀ p ∈ rawPcs b, PcOk p := by
  intro p hp
  rcases List.mem_cons.mp hp with rfl | hp
  · exact ⟨by show (1 : Int) ≤ 1; decide, by show (1 : Int) ≤ 60; decide, by show (0 : Int) ≤ 0; decide, by show (0 : Int) ≤ 1000; decide⟩
  · exact rp_ok _ _ h p hp
theorem PcOk.run {p : Pc} (h : PcOk p) (l : Int) : f_Piece_fare [encPc p, .int l] = some (.int (p.fare l)) :=
  run_fare (by have := h.u0; omega) (by have := h.u0; have := h.u1; omega) (mulOk_l (by have := h.p0; omega) (by have := h.p1; omega))
def stopOk (o : Option Int) (l : Int) : Option Int := match o with
  | some s => if s < l then none else some l
  | none => some l
def fa (p : Pc) (c : Int) : Option Int := if p.fare p.start < c then (if p.price = 0 then none else stopOk p.stop (p.first + (cdiv (c - p.base) p.price - 1) * p.unit + 1)) else stopOk p.stop p.start
theorem run_fa {p : Pc} (h : PcOk p) (c : Int) : f_first_above [encPc p, .int c] = some (encO (fa p c)) := by
  have hf := h.run p.start
  have hp := pure_encPc p
  refine runP_rt (M := []) (d := encO (fa p c)) ?_ (fz1_pure (pure_encO _))
  unfold B_first_above fa
  by_cases h1 : p.fare p.start < c
  · by_cases h2 : p.price = 0
    · walk_at "p*"
    · have hu := run_units (l := c - p.base) h2 (by have := h.p0; have := h.p1; omega)
      have hm : mulOk (cdiv (c - p.base) p.price - 1) p.unit = true := mulOk_r (by have := h.u0; omega) (by have := h.u1; omega)
      cases hs : p.stop with
      | none =>
        unfold stopOk
        walk_at "p*"
      | some s =>
        by_cases h3 : s < p.first + (cdiv (c - p.base) p.price - 1) * p.unit + 1
        · unfold stopOk
          walk_at "p*"
        · unfold stopOk
          walk_at "p*"
  · cases hs : p.stop with
    | none =>
      unfold stopOk
      walk_at "p*"
    | some s =>
      by_cases h3 : s < p.start
      · unfold stopOk
        walk_at "p*"
      · unfold stopOk
        walk_at "p*"
def cut (c : Int) : List Pc → List Pc
  | [] => []
  | p :: r => match fa p c with
    | some l => (if p.start < l then [⟨p.start, some (l - 1), p.base, p.first, p.unit, p.price⟩] else []) ++ [⟨l, none, c, 0, 1, 0⟩]
    | none => p :: cut c r
def cutO : Option Int → List Pc → List Pc
  | none, ps => ps
  | some c, ps => cut c ps
def pcs (b : Bk) : List Pc := cutO b.cap (rawPcs b)
theorem cut_len (c : Int) : ∀ ps, (cut c ps).length ≤ ps.length + 1
  | [] => by simp [cut]
  | p :: r => by
    have := cut_len c r
    unfold cut
    cases fa p c with
    | none => simp; omega
    | some l =>
      by_cases h : p.start < l
      · simp [h]
      · simp [h]
theorem pieces_go (b : Bk) : ∀ (ps : List Pc) (found : List Pc) (a3 a4 : Option D), (∀ p ∈ ps, PcOk p) → found.length + ps.length ≤ 1000 →
    (∃ b3 b4, forGo (gN 3) (sSeq (sAsg (eC .non) (gN 4)) (sSeq (sIf (bTest (eBin oNotN (eVar 1) (eC .non))) (sAsg (eCall f_first_above (aCons (eVar 3) (aCons (eVar 1) (aNil)))) (gN 4)) (sNext)) (sSeq (sIf (bTest (eBin oNotN (eVar 4) (eC .non))) (sSeq (sIf (bTest (eBin oGt (eVar 4) (eFld 0 "start" (eVar 3)))) (sDrop (eApp (eVar 2) (eCall f_Piece___init__ (aCons (eFld 0 "start" (eVar 3)) (aCons (eBin oSub (eVar 4) (eC (.int 1))) (aCons (eFld 0 "base" (eVar 3)) (aCons (eTup (aCons (eFld 0 "first" (eVar 3)) (aCons (eFld 0 "unit" (eVar 3)) (aCons (eFld 0 "price" (eVar 3)) (aNil))))) (aNil)))))))) (sNext)) (sSeq (sDrop (eApp (eVar 2) (eCall f_Piece___init__ (aCons (eVar 4) (aCons (eC .non) (aCons (eVar 1) (aCons (eTup (aCons (eC (.int 0)) (aCons (eC (.int 1)) (aCons (eC (.int 0)) (aNil))))) (aNil)))))))) (sRet (eVar 2)))) (sNext)) (sDrop (eApp (eVar 2) (eVar 3)))))) none (ps.map encPc) [some (encB b), some (encO b.cap), some (.loc 0), a3, a4] [.lst (found.map encPc)] = some (.nx [some (encB b), some (encO b.cap), some (.loc 0), b3, b4], [.lst ((found ++ cutO b.cap ps).map encPc)])) ∨
    (forGo (gN 3) (sSeq (sAsg (eC .non) (gN 4)) (sSeq (sIf (bTest (eBin oNotN (eVar 1) (eC .non))) (sAsg (eCall f_first_above (aCons (eVar 3) (aCons (eVar 1) (aNil)))) (gN 4)) (sNext)) (sSeq (sIf (bTest (eBin oNotN (eVar 4) (eC .non))) (sSeq (sIf (bTest (eBin oGt (eVar 4) (eFld 0 "start" (eVar 3)))) (sDrop (eApp (eVar 2) (eCall f_Piece___init__ (aCons (eFld 0 "start" (eVar 3)) (aCons (eBin oSub (eVar 4) (eC (.int 1))) (aCons (eFld 0 "base" (eVar 3)) (aCons (eTup (aCons (eFld 0 "first" (eVar 3)) (aCons (eFld 0 "unit" (eVar 3)) (aCons (eFld 0 "price" (eVar 3)) (aNil))))) (aNil)))))))) (sNext)) (sSeq (sDrop (eApp (eVar 2) (eCall f_Piece___init__ (aCons (eVar 4) (aCons (eC .non) (aCons (eVar 1) (aCons (eTup (aCons (eC (.int 0)) (aCons (eC (.int 1)) (aCons (eC (.int 0)) (aNil))))) (aNil)))))))) (sRet (eVar 2)))) (sNext)) (sDrop (eApp (eVar 2) (eVar 3)))))) none (ps.map encPc) [some (encB b), some (encO b.cap), some (.loc 0), a3, a4] [.lst (found.map encPc)] = some (.rt (.loc 0), [.lst ((found ++ cutO b.cap ps).map encPc)]))
  | [], found, a3, a4, _, _ => .inl ⟨a3, a4, by
    have : cutO b.cap [] = [] := by cases b.cap <;> rfl
    rw [this, List.append_nil]
    rfl⟩
  | p :: r, found, a3, a4, h, hl => by
    have hp := h p (by simp)
    have hz : found.length < 1000000 := by simp at hl; omega
    have hz2 : found.length + 1 < 1000000 := by simp at hl; omega
    have hl2 : (found ++ [p]).length + r.length ≤ 1000 := by simp at hl ⊢; omega
    have ih := fun a3 a4 => pieces_go b r (found ++ [p]) a3 a4 (fun x hx => h x (List.mem_cons_of_mem _ hx)) hl2
    have keep : (cutO b.cap (p :: r) = p :: cutO b.cap r) → (∃ a3' a4', turn (gN 3) (sSeq (sAsg (eC .non) (gN 4)) (sSeq (sIf (bTest (eBin oNotN (eVar 1) (eC .non))) (sAsg (eCall f_first_above (aCons (eVar 3) (aCons (eVar 1) (aNil)))) (gN 4)) (sNext)) (sSeq (sIf (bTest (eBin oNotN (eVar 4) (eC .non))) (sSeq (sIf (bTest (eBin oGt (eVar 4) (eFld 0 "start" (eVar 3)))) (sDrop (eApp (eVar 2) (eCall f_Piece___init__ (aCons (eFld 0 "start" (eVar 3)) (aCons (eBin oSub (eVar 4) (eC (.int 1))) (aCons (eFld 0 "base" (eVar 3)) (aCons (eTup (aCons (eFld 0 "first" (eVar 3)) (aCons (eFld 0 "unit" (eVar 3)) (aCons (eFld 0 "price" (eVar 3)) (aNil))))) (aNil)))))))) (sNext)) (sSeq (sDrop (eApp (eVar 2) (eCall f_Piece___init__ (aCons (eVar 4) (aCons (eC .non) (aCons (eVar 1) (aCons (eTup (aCons (eC (.int 0)) (aCons (eC (.int 1)) (aCons (eC (.int 0)) (aNil))))) (aNil)))))))) (sRet (eVar 2)))) (sNext)) (sDrop (eApp (eVar 2) (eVar 3)))))) (encPc p) [some (encB b), some (encO b.cap), some (.loc 0), a3, a4] [.lst (found.map encPc)] = some (.nx [some (encB b), some (encO b.cap), some (.loc 0), a3', a4'], [.lst ((found ++ [p]).map encPc)])) → ((∃ a3' a4', forGo (gN 3) (sSeq (sAsg (eC .non) (gN 4)) (sSeq (sIf (bTest (eBin oNotN (eVar 1) (eC .non))) (sAsg (eCall f_first_above (aCons (eVar 3) (aCons (eVar 1) (aNil)))) (gN 4)) (sNext)) (sSeq (sIf (bTest (eBin oNotN (eVar 4) (eC .non))) (sSeq (sIf (bTest (eBin oGt (eVar 4) (eFld 0 "start" (eVar 3)))) (sDrop (eApp (eVar 2) (eCall f_Piece___init__ (aCons (eFld 0 "start" (eVar 3)) (aCons (eBin oSub (eVar 4) (eC (.int 1))) (aCons (eFld 0 "base" (eVar 3)) (aCons (eTup (aCons (eFld 0 "first" (eVar 3)) (aCons (eFld 0 "unit" (eVar 3)) (aCons (eFld 0 "price" (eVar 3)) (aNil))))) (aNil)))))))) (sNext)) (sSeq (sDrop (eApp (eVar 2) (eCall f_Piece___init__ (aCons (eVar 4) (aCons (eC .non) (aCons (eVar 1) (aCons (eTup (aCons (eC (.int 0)) (aCons (eC (.int 1)) (aCons (eC (.int 0)) (aNil))))) (aNil)))))))) (sRet (eVar 2)))) (sNext)) (sDrop (eApp (eVar 2) (eVar 3)))))) none ((p :: r).map encPc) [some (encB b), some (encO b.cap), some (.loc 0), a3, a4] [.lst (found.map encPc)] = some (.nx [some (encB b), some (encO b.cap), some (.loc 0), a3', a4'], [.lst ((found ++ cutO b.cap (p :: r)).map encPc)])) ∨
    (forGo (gN 3) (sSeq (sAsg (eC .non) (gN 4)) (sSeq (sIf (bTest (eBin oNotN (eVar 1) (eC .non))) (sAsg (eCall f_first_above (aCons (eVar 3) (aCons (eVar 1) (aNil)))) (gN 4)) (sNext)) (sSeq (sIf (bTest (eBin oNotN (eVar 4) (eC .non))) (sSeq (sIf (bTest (eBin oGt (eVar 4) (eFld 0 "start" (eVar 3)))) (sDrop (eApp (eVar 2) (eCall f_Piece___init__ (aCons (eFld 0 "start" (eVar 3)) (aCons (eBin oSub (eVar 4) (eC (.int 1))) (aCons (eFld 0 "base" (eVar 3)) (aCons (eTup (aCons (eFld 0 "first" (eVar 3)) (aCons (eFld 0 "unit" (eVar 3)) (aCons (eFld 0 "price" (eVar 3)) (aNil))))) (aNil)))))))) (sNext)) (sSeq (sDrop (eApp (eVar 2) (eCall f_Piece___init__ (aCons (eVar 4) (aCons (eC .non) (aCons (eVar 1) (aCons (eTup (aCons (eC (.int 0)) (aCons (eC (.int 1)) (aCons (eC (.int 0)) (aNil))))) (aNil)))))))) (sRet (eVar 2)))) (sNext)) (sDrop (eApp (eVar 2) (eVar 3)))))) none ((p :: r).map encPc) [some (encB b), some (encO b.cap), some (.loc 0), a3, a4] [.lst (found.map encPc)] = some (.rt (.loc 0), [.lst ((found ++ cutO b.cap (p :: r)).map encPc)]))) := by
      rintro e ⟨a3', a4', ht⟩
      rw [List.map_cons, forGo_nx ht, e, show found ++ p :: cutO b.cap r = (found ++ [p]) ++ cutO b.cap r by simp]
      exact ih a3' a4'
    cases hc : b.cap with
    | none =>
      rw [hc] at keep
      refine keep rfl ⟨some (encPc p), some .non, ?_⟩
      rw [List.map_append]
      walk_at "p*"
    | some c =>
      rw [hc] at keep
      have hr := run_fa hp c
      have pp := pure_encPc p
      cases hf : fa p c with
      | none =>
        refine keep (by simp only [cutO, cut, hf]) ⟨some (encPc p), some .non, ?_⟩
        rw [List.map_append]
        walk_at "p*"
      | some l =>
        refine .inr ?_
        by_cases hlt : p.start < l
        · have e : cutO (some c) (p :: r) = [⟨p.start, some (l - 1), p.base, p.first, p.unit, p.price⟩] ++ [⟨l, none, c, 0, 1, 0⟩] := by simp only [cutO, cut, hf, if_pos hlt]
          rw [e, List.map_cons]
          refine forGo_rt ?_
          rw [List.map_append, List.map_append]
          walk_at "p*"
        · have e : cutO (some c) (p :: r) = [⟨l, none, c, 0, 1, 0⟩] := by simp only [cutO, cut, hf, if_neg hlt]; rfl
          rw [e, List.map_cons]
          refine forGo_rt ?_
          rw [List.map_append]
          walk_at "p*"
theorem rp_len : ∀ (base : Int) (ts : List (Int × Int × Int)), (rp base ts).length = ts.length
  | _, [] => rfl
  | _, [t] => rfl
  | b, t :: t2 :: r => by
    have := rp_len (b + t.2.2 * cdiv (t2.1 - t.1) t.2.1) (t2 :: r)
    rw [rp, List.length_cons, this]
    simp
theorem run_pieces (b : Bk) (hb : ∀ t ∈ b.tiers, TierOk t) (hl : b.tiers.length ≤ 5) : f_pieces [encB b] = some (.lst ((pcs b).map encPc)) := by
  have hr := run_raw b hb hl
  have pb := pure_encB b
  have pp := pure_pcs (pcs b)
  have go := fun a3 a4 => pieces_go b (rawPcs b) [] a3 a4 (rawPcs_ok b hb) (by simp [rawPcs, rp_len]; omega)
  rw [List.nil_append] at go
  have hi : oIx [] (encB b) (.int 2) = some (encO b.cap) := by
    unfold encB
    walk_at "y*"
  rcases go none none with ⟨a3, a4, g⟩ | g
  · refine runP_rt (M := [.dead]) (d := .lst ((pcs b).map encPc)) ?_ (fz1_pure (by rw [r_pD_lst]; exact pp))
    unfold B_pieces
    change _ = some (_, [MO.lst ((pcs b).map encPc)]) at g
    rw [List.map_nil] at g
    walk_at "p*"
  · refine runP_rt (M := [.lst ((pcs b).map encPc)]) (d := .loc 0) ?_ ?_
    · unfold B_pieces
      change _ = some (_, [MO.lst ((pcs b).map encPc)]) at g
      rw [List.map_nil] at g
      walk_at "p*"
    · exact fz1_loc rfl pp
/-! ### the piece at a length -/
theorem run_at {ps : List Pc} {l : Int} {p : Pc} (hl : ps.length ≤ 1000) (h : (ps.filter fun p => decide (p.start ≤ l)).getLast? = some p) : f_piece_at [.lst (ps.map encPc), .int l] = some (encPc p) := by
  refine runP_rt (M := []) (d := encPc p) ?_ (fz1_pure (pure_encPc p))
  unfold B_piece_at
  have c := lcGo_filter (G := gN 2) (F := bTest (eBin oLe (eFld 0 "start" (eVar 2)) (eVar 1))) (E := eVar 2) (ρ := [some (.lst (ps.map encPc)), some (.int l), none]) (M := []) encPc (fun p => decide (p.start ≤ l)) encPc ps [] (fun x _ => ⟨_, rfl, by walk_at "p*", fun _ => by walk_at "p*"⟩)
  have hz : ps.length ≤ 1000000 := by omega
  have hg : atI ((ps.filter fun p => decide (p.start ≤ l)).map encPc) (-1) = some (encPc p) := atI_neg1 (by rw [List.getLast?_map, h]; rfl)
  walk_at "p*"
theorem cdiv_le {x u m : Int} (hu : 0 < u) : cdiv x u ≤ m ↔ x ≤ m * u := by
  unfold cdiv
  rw [Int.fdiv_eq_ediv_of_nonneg _ (Int.le_of_lt hu)]
  have := Int.le_ediv_iff_mul_le (a := -m) (b := -x) hu
  rw [Int.neg_mul] at this
  constructor
  · intro h
    have := this.mp (by omega)
    omega
  · intro h
    have := this.mpr (by omega)
    omega
theorem le_cdiv {x u n : Int} (hu : 0 < u) : n ≤ cdiv x u ↔ (n - 1) * u < x := by
  have := cdiv_le (x := x) (m := n - 1) hu
  constructor
  · intro h
    by_cases g : x ≤ (n - 1) * u
    · have := this.mpr g
      omega
    · omega
  · intro h
    by_cases g : cdiv x u ≤ n - 1
    · have := this.mp g
      omega
    · omega
theorem cdiv_mono {x y u : Int} (hu : 0 < u) (h : x ≤ y) : cdiv x u ≤ cdiv y u := (cdiv_le hu).mpr (Int.le_trans h ((cdiv_le hu).mp (Int.le_refl _)))
theorem cdiv_up {x u : Int} (hu : 0 < u) : (x + u - 1).fdiv u = cdiv x u := by
  rw [Int.fdiv_eq_ediv_of_nonneg _ (Int.le_of_lt hu)]
  refine Int.le_antisymm ?_ ?_
  · rw [le_cdiv hu]
    have := Int.ediv_mul_le (x + u - 1) (b := u) (by omega)
    rw [Int.sub_mul]
    omega
  · rw [cdiv_le hu]
    have := Int.lt_ediv_add_one_mul_self (x + u - 1) hu
    rw [Int.add_mul] at this
    omega
theorem cdiv_zero {u : Int} (hu : 0 < u) : cdiv 0 u = 0 := by
  unfold cdiv
  simp
theorem cdiv_shift {x u : Int} (hu : 0 < u) : cdiv (x + u) u = cdiv x u + 1 := by
  unfold cdiv
  rw [Int.fdiv_eq_ediv_of_nonneg _ (Int.le_of_lt hu), Int.fdiv_eq_ediv_of_nonneg _ (Int.le_of_lt hu), show -(x + u) = -x + (-1) * u by omega, Int.add_mul_ediv_right _ _ (by omega)]
  omega
theorem cdiv_nn {x u : Int} (hu : 0 < u) (h : 0 ≤ x) : 0 ≤ cdiv x u := by
  have := cdiv_mono hu h
  rwa [cdiv_zero hu] at this
theorem fare_mono {p : Pc} (h : PcOk p) {x y : Int} (hl : x ≤ y) : p.fare x ≤ p.fare y := by
  unfold Pc.fare
  have := Int.mul_le_mul_of_nonneg_left (cdiv_mono (x := x - p.first) (y := y - p.first) (u := p.unit) (by have := h.u0; omega) (by omega)) h.p0
  omega
theorem fa_at {p : Pc} (h : PcOk p) (hz : p.price ≠ 0) (c l : Int) : c ≤ p.fare l ↔ p.first + (cdiv (c - p.base) p.price - 1) * p.unit + 1 ≤ l := by
  have hp : 0 < p.price := by have := h.p0; omega
  have hu : 0 < p.unit := by have := h.u0; omega
  have h1 := cdiv_le (x := c - p.base) (m := cdiv (l - p.first) p.unit) hp
  have h2 := le_cdiv (x := l - p.first) (n := cdiv (c - p.base) p.price) hu
  unfold Pc.fare
  rw [Int.mul_comm p.price]
  constructor
  · intro g
    have := h2.mp (h1.mpr (by omega))
    omega
  · intro g
    have := h1.mp (h2.mpr (by omega))
    omega
theorem stopOk_some {o : Option Int} {l x : Int} (h : stopOk o l = some x) : x = l ∧ ∀ e, o = some e → l ≤ e := by
  cases o with
  | none => exact ⟨(Option.some.inj h).symm, fun e he => nomatch he⟩
  | some s =>
    change (if s < l then none else some l) = _ at h
    by_cases g : s < l
    · rw [if_pos g] at h; cases h
    · rw [if_neg g] at h
      exact ⟨(Option.some.inj h).symm, fun e he => by cases he; omega⟩
theorem stopOk_none {o : Option Int} {l : Int} (h : stopOk o l = none) : ∃ e, o = some e ∧ e < l := by
  cases o with
  | none => cases h
  | some s =>
    change (if s < l then none else some l) = _ at h
    by_cases g : s < l
    · exact ⟨s, rfl, g⟩
    · rw [if_neg g] at h; cases h
theorem fa_some {p : Pc} (h : PcOk p) {c l : Int} (e : fa p c = some l) : p.start ≤ l ∧ (∀ e, p.stop = some e → l ≤ e) ∧ c ≤ p.fare l ∧ ∀ x, p.start ≤ x → x < l → p.fare x < c := by
  unfold fa at e
  by_cases h1 : p.fare p.start < c
  · rw [if_pos h1] at e
    by_cases h2 : p.price = 0
    · rw [if_pos h2] at e; cases e
    · rw [if_neg h2] at e
      obtain ⟨rfl, hs⟩ := stopOk_some e
      refine ⟨?_, hs, (fa_at h h2 _ _).mpr (Int.le_refl _), fun x _ hx => ?_⟩
      · have := fa_at h h2 c p.start
        by_cases g : p.first + (cdiv (c - p.base) p.price - 1) * p.unit + 1 ≤ p.start
        · have := this.mpr g
          omega
        · omega
      · have := fa_at h h2 c x
        by_cases g : c ≤ p.fare x
        · have := this.mp g
          omega
        · omega
  · rw [if_neg h1] at e
    obtain ⟨rfl, hs⟩ := stopOk_some e
    exact ⟨Int.le_refl _, hs, by omega, fun x g1 g2 => by omega⟩
theorem fa_none {p : Pc} (h : PcOk p) {c : Int} (e : fa p c = none) : ∀ x, p.start ≤ x → (∀ e, p.stop = some e → x ≤ e) → p.fare x < c := by
  intro x hx hs
  unfold fa at e
  by_cases h1 : p.fare p.start < c
  · rw [if_pos h1] at e
    by_cases h2 : p.price = 0
    · unfold Pc.fare at h1 ⊢
      rw [h2, Int.zero_mul] at h1 ⊢
      exact h1
    · rw [if_neg h2] at e
      obtain ⟨s, hs1, hs2⟩ := stopOk_none e
      have h3 := hs s hs1
      by_cases g : c ≤ p.fare x
      · have := (fa_at h h2 c x).mp g
        omega
      · omega
  · rw [if_neg h1] at e
    obtain ⟨s, hs1, hs2⟩ := stopOk_none e
    have h3 := hs s hs1
    omega
/-! ### chains of pieces -/
def Ch (F : Int → Int) : Int → List Pc → Prop
  | _, [] => False
  | s, [p] => p.start = s ∧ p.stop = none ∧ ∀ l, s ≤ l → p.fare l = F l
  | s, p :: q :: r => p.start = s ∧ ∃ e, p.stop = some e ∧ s ≤ e ∧ (∀ l, s ≤ l → l ≤ e → p.fare l = F l) ∧ Ch F (e + 1) (q :: r)
theorem ch_start {F : Int → Int} : ∀ {s : Int} {ps : List Pc}, Ch F s ps → ∀ p ∈ ps, s ≤ p.start
  | _, [], h, _, _ => h.elim
  | s, [p], h, x, hx => by
    rw [List.mem_singleton] at hx
    subst hx
    have := h.1
    omega
  | s, p :: q :: r, h, x, hx => by
    obtain ⟨h1, e, _, h2, _, h3⟩ := h
    rcases List.mem_cons.mp hx with rfl | hx
    · omega
    · have := ch_start h3 x hx
      omega
theorem ch_congr {F G : Int → Int} : ∀ {s : Int} {ps : List Pc}, (∀ l, s ≤ l → F l = G l) → Ch F s ps → Ch G s ps
  | _, [], _, h => h.elim
  | s, [p], e, h => ⟨h.1, h.2.1, fun l hl => (h.2.2 l hl).trans (e l hl)⟩
  | s, p :: q :: r, e, h => by
    obtain ⟨h1, x, h4, h2, h5, h3⟩ := h
    exact ⟨h1, x, h4, h2, fun l hl hx => (h5 l hl hx).trans (e l hl), ch_congr (fun l hl => e l (by omega)) h3⟩
def atP (ps : List Pc) (l : Int) : Option Pc := (ps.filter fun p => decide (p.start ≤ l)).getLast?
theorem atP_nil {ps : List Pc} {l : Int} (h : ∀ p ∈ ps, l < p.start) : ps.filter (fun p => decide (p.start ≤ l)) = [] := by
  rw [List.filter_eq_nil_iff]
  intro p hp
  have := h p hp
  simp
  omega
theorem ch_at {F : Int → Int} : ∀ {s : Int} {ps : List Pc} {l : Int}, Ch F s ps → s ≤ l → ∃ p, atP ps l = some p ∧ p.fare l = F l
  | _, [], _, h, _ => h.elim
  | s, [p], l, h, hl => by
    refine ⟨p, ?_, h.2.2 l hl⟩
    unfold atP
    rw [List.filter_cons, if_pos (by have := h.1; simp; omega)]
    rfl
  | s, p :: q :: r, l, h, hl => by
    obtain ⟨h1, e, h4, h2, h5, h3⟩ := h
    have hp : decide (p.start ≤ l) = true := by simp; omega
    by_cases hle : l ≤ e
    · refine ⟨p, ?_, h5 l hl hle⟩
      unfold atP
      rw [List.filter_cons, if_pos hp, atP_nil fun x hx => by have := ch_start h3 x hx; omega]
      rfl
    · obtain ⟨x, hx, hf⟩ := ch_at (l := l) h3 (by omega)
      refine ⟨x, ?_, hf⟩
      unfold atP at hx ⊢
      rw [List.filter_cons, if_pos hp, List.getLast?_cons, hx]
      rfl
theorem cut_ch {F : Int → Int} {c : Int} (hF : ∀ x y, x ≤ y → F x ≤ F y) : ∀ {s : Int} {ps : List Pc}, (∀ p ∈ ps, PcOk p) → Ch F s ps → Ch (fun l => if c < F l then c else F l) s (cut c ps)
  | _, [], _, h => h.elim
  | s, p :: r, hk, h => by
    have ok := hk p (by simp)
    have h1 : p.start = s := by cases r with
      | nil => exact h.1
      | cons q r => exact h.1
    have hin : ∀ l, s ≤ l → (∀ e, p.stop = some e → l ≤ e) → p.fare l = F l := by cases r with
      | nil => exact fun l hl _ => h.2.2 l hl
      | cons q r =>
        obtain ⟨_, e, he, _, hf, _⟩ := h
        exact fun l hl hs => hf l hl (hs e he)
    cases hf : fa p c with
    | some l =>
      obtain ⟨g1, g2, g3, g4⟩ := fa_some ok hf
      have hFl := hin l (by omega) g2
      have last : Ch (fun l => if c < F l then c else F l) l [⟨l, none, c, 0, 1, 0⟩] := by
        refine ⟨rfl, rfl, fun x hx => ?_⟩
        have := hF l x hx
        unfold Pc.fare
        show c + 0 * _ = if c < F x then c else F x
        rw [Int.zero_mul, Int.add_zero]
        by_cases g : c < F x
        · exact (if_pos g).symm
        · rw [if_neg g]
          omega
      unfold cut
      rw [hf]
      by_cases hlt : p.start < l
      · simp only [if_pos hlt]
        refine ⟨h1, l - 1, rfl, by omega, fun x hx hxl => ?_, ?_⟩
        · have h5 := hin x hx fun e he => by have := g2 e he; omega
          have h6 := g4 x (by omega) (by omega)
          have : p.fare x = Pc.fare ⟨p.start, some (l - 1), p.base, p.first, p.unit, p.price⟩ x := rfl
          rw [← this]
          show p.fare x = if c < F x then c else F x
          rw [if_neg (by omega)]
          exact h5
        · rw [show l - 1 + 1 = l by omega]
          exact last
      · simp only [if_neg hlt]
        rw [show s = l by omega]
        exact last
    | none =>
      have g := fa_none ok hf
      have hlow : ∀ l, s ≤ l → (∀ e, p.stop = some e → l ≤ e) → p.fare l = if c < F l then c else F l := by
        intro l hl hs
        have h5 := hin l hl hs
        have h6 := g l (by omega) hs
        rw [if_neg (by omega)]
        exact h5
      cases r with
      | nil =>
        unfold cut
        rw [hf]
        exact ⟨h1, h.2.1, fun l hl => hlow l hl fun e he => by rw [h.2.1] at he; cases he⟩
      | cons q r =>
        obtain ⟨_, e, he, hse, _, h3⟩ := h
        have ih := cut_ch (c := c) hF (fun x hx => hk x (List.mem_cons_of_mem _ hx)) h3
        have hc : cut c (p :: q :: r) = p :: cut c (q :: r) := by rw [cut, hf]
        rw [hc]
        cases hcr : cut c (q :: r) with
        | nil =>
          rw [hcr] at ih
          exact ih.elim
        | cons q' r' =>
          rw [hcr] at ih
          exact ⟨h1, e, he, hse, fun l hl hle => hlow l hl fun e' he' => by rw [he] at he'; cases he'; exact hle, ih⟩
/-! ### the fare by the law -/
def partF (t : Int × Int × Int) (x : Int) : Int := if 0 < x then t.2.2 * cdiv x t.2.1 else 0
def lr (l : Int) : Int → List (Int × Int × Int) → Int
  | b, [] => b
  | b, [t] => b + partF t (l - t.1)
  | b, t :: t2 :: r => lr l (b + partF t (if t2.1 - t.1 < l - t.1 then t2.1 - t.1 else l - t.1)) (t2 :: r)
def rawL (b : Bk) (l : Int) : Int := lr l b.base b.tiers
def fareL (b : Bk) (l : Int) : Int := match b.cap with
  | none => rawL b l
  | some c => if c < rawL b l then c else rawL b l
theorem partF_mono {t : Int × Int × Int} (h : TierOk t) {x y : Int} (hl : x ≤ y) : partF t x ≤ partF t y := by
  unfold partF
  have hu : 0 < t.2.1 := by have := h.u0; omega
  by_cases h1 : 0 < x
  · rw [if_pos h1, if_pos (by omega)]
    exact Int.mul_le_mul_of_nonneg_left (cdiv_mono hu hl) h.p0
  · rw [if_neg h1]
    by_cases h2 : 0 < y
    · rw [if_pos h2]
      exact Int.mul_nonneg h.p0 (cdiv_nn hu (by omega))
    · rw [if_neg h2]
      exact Int.le_refl _
theorem partF_nn {t : Int × Int × Int} (h : TierOk t) {x : Int} : 0 ≤ partF t x := by
  unfold partF
  have hu : 0 < t.2.1 := by have := h.u0; omega
  by_cases h1 : 0 < x
  · rw [if_pos h1]
    exact Int.mul_nonneg h.p0 (cdiv_nn hu (by omega))
  · rw [if_neg h1]
    exact Int.le_refl _
theorem partF_low {t : Int × Int × Int} {x : Int} (h : x ≤ 0) : partF t x = 0 := if_neg (by omega)
theorem partF_high {t : Int × Int × Int} (h : TierOk t) {x : Int} (hx : 0 ≤ x) : partF t x = t.2.2 * cdiv x t.2.1 := by
  unfold partF
  by_cases h1 : 0 < x
  · exact if_pos h1
  · rw [if_neg h1, show x = 0 by omega, cdiv_zero (by have := h.u0; omega), Int.mul_zero]
theorem lr_mono {x y : Int} (hl : x ≤ y) : ∀ {b c : Int} {ts : List (Int × Int × Int)}, (∀ t ∈ ts, TierOk t) → b ≤ c → lr x b ts ≤ lr y c ts
  | _, _, [], _, h => h
  | b, c, [t], hk, h => by
    have := partF_mono (hk t (by simp)) (x := x - t.1) (y := y - t.1) (by omega)
    unfold lr
    omega
  | b, c, t :: t2 :: r, hk, h => by
    have h1 : (if t2.1 - t.1 < x - t.1 then t2.1 - t.1 else x - t.1) ≤ (if t2.1 - t.1 < y - t.1 then t2.1 - t.1 else y - t.1) := by
      by_cases g1 : t2.1 - t.1 < x - t.1
      · rw [if_pos g1, if_pos (by omega)]
        exact Int.le_refl _
      · rw [if_neg g1]
        by_cases g2 : t2.1 - t.1 < y - t.1
        · rw [if_pos g2]; omega
        · rw [if_neg g2]; omega
    have := partF_mono (hk t (by simp)) h1
    unfold lr
    exact lr_mono hl (fun z hz => hk z (List.mem_cons_of_mem _ hz)) (by omega)
theorem lr_nn {l : Int} : ∀ {b : Int} {ts : List (Int × Int × Int)}, (∀ t ∈ ts, TierOk t) → 0 ≤ b → 0 ≤ lr l b ts
  | _, [], _, h => h
  | b, [t], hk, h => by
    have := partF_nn (hk t (by simp)) (x := l - t.1)
    unfold lr
    omega
  | b, t :: t2 :: r, hk, h => by
    have := partF_nn (hk t (by simp)) (x := if t2.1 - t.1 < l - t.1 then t2.1 - t.1 else l - t.1)
    unfold lr
    exact lr_nn (fun z hz => hk z (List.mem_cons_of_mem _ hz)) (by omega)
/-- firsts ascend -/
def Asc : List (Int × Int × Int) → Prop
  | [] => True
  | [_] => True
  | t :: t2 :: r => t.1 < t2.1 ∧ Asc (t2 :: r)
theorem asc_head {t : Int × Int × Int} : ∀ {ts : List (Int × Int × Int)}, Asc (t :: ts) → ∀ x ∈ ts, t.1 < x.1
  | [], _, _, h => by cases h
  | [t2], h, x, hx => by
    rw [List.mem_singleton] at hx
    subst hx
    exact h.1
  | t2 :: t3 :: r, h, x, hx => by
    rcases List.mem_cons.mp hx with rfl | hx
    · exact h.1
    · have := asc_head h.2 x hx
      have := h.1
      omega
theorem lr_low {l : Int} : ∀ {b : Int} {ts : List (Int × Int × Int)}, (∀ t ∈ ts, l ≤ t.1) → lr l b ts = b
  | _, [], _ => rfl
  | b, [t], h => by
    have := h t (by simp)
    unfold lr
    rw [partF_low (by omega), Int.add_zero]
  | b, t :: t2 :: r, h => by
    have h1 := h t (by simp)
    have h2 := h t2 (by simp)
    unfold lr
    rw [if_neg (by omega), partF_low (by omega), Int.add_zero]
    exact lr_low fun z hz => h z (List.mem_cons_of_mem _ hz)
theorem rp_ch : ∀ {b : Int} {t : Int × Int × Int} {r : List (Int × Int × Int)}, (∀ x ∈ t :: r, TierOk x) → Asc (t :: r) → Ch (fun l => lr l b (t :: r)) (t.1 + 1) (rp b (t :: r))
  | b, t, [], hk, _ => by
    refine ⟨rfl, rfl, fun l hl => ?_⟩
    show b + t.2.2 * cdiv (l - t.1) t.2.1 = b + partF t (l - t.1)
    rw [partF_high (hk t (by simp)) (by omega)]
  | b, t, t2 :: r, hk, ha => by
    have ok := hk t (by simp)
    have ih := rp_ch (b := b + t.2.2 * cdiv (t2.1 - t.1) t.2.1) (t := t2) (r := r) (fun x hx => hk x (List.mem_cons_of_mem _ hx)) ha.2
    have tail : Ch (fun l => lr l b (t :: t2 :: r)) (t2.1 + 1) (rp (b + t.2.2 * cdiv (t2.1 - t.1) t.2.1) (t2 :: r)) := by
      refine ch_congr (fun l hl => ?_) ih
      show lr l (b + t.2.2 * cdiv (t2.1 - t.1) t.2.1) (t2 :: r) = lr l (b + partF t (if t2.1 - t.1 < l - t.1 then t2.1 - t.1 else l - t.1)) (t2 :: r)
      rw [if_pos (by omega), partF_high ok (by have := ha.1; omega)]
    have head : ∀ l, t.1 + 1 ≤ l → l ≤ t2.1 → b + t.2.2 * cdiv (l - t.1) t.2.1 = lr l b (t :: t2 :: r) := by
      intro l hl hle
      show b + t.2.2 * cdiv (l - t.1) t.2.1 = lr l (b + partF t (if t2.1 - t.1 < l - t.1 then t2.1 - t.1 else l - t.1)) (t2 :: r)
      rw [if_neg (by omega), partF_high ok (by omega), lr_low]
      intro x hx
      rcases List.mem_cons.mp hx with rfl | hx
      · exact hle
      · have := asc_head ha.2 x hx
        omega
    have hlt := ha.1
    cases r with
    | nil => exact ⟨rfl, t2.1, rfl, by omega, head, tail⟩
    | cons t3 r => exact ⟨rfl, t2.1, rfl, by omega, head, tail⟩
/-! ### right books -/
structure BkOk (b : Bk) : Prop where
  b0 : 0 ≤ b.base
  b1 : b.base ≤ 100000
  tk : ∀ t ∈ b.tiers, TierOk t
  ne : b.tiers ≠ []
  ln : b.tiers.length ≤ 5
  fz : ∀ t r, b.tiers = t :: r → t.1 = 0
  as : Asc b.tiers
  cp : ∀ c, b.cap = some c → 0 ≤ c ∧ c ≤ 1000000
theorem tierOk_iff {t : Int × Int × Int} : tierOk t = true ↔ TierOk t := by
  unfold tierOk
  rw [decide_eq_true_eq]
  exact ⟨fun h => ⟨h.1, h.2.1, h.2.2.1, h.2.2.2.1, h.2.2.2.2.1, h.2.2.2.2.2⟩, fun h => ⟨h.f0, h.f1, h.u0, h.u1, h.p0, h.p1⟩⟩
theorem ascB_iff : ∀ (ts : List (Int × Int × Int)), ascB (ts.map (·.1)) = true ↔ Asc ts
  | [] => ⟨fun _ => trivial, fun _ => rfl⟩
  | [_] => ⟨fun _ => trivial, fun _ => rfl⟩
  | t :: t2 :: r => by
    have ih := ascB_iff (t2 :: r)
    have e : ascB ((t :: t2 :: r).map (·.1)) = (decide (t.1 < t2.1) && ascB ((t2 :: r).map (·.1))) := by simp [ascB]
    rw [e, Bool.and_eq_true, ih, decide_eq_true_eq]
    exact Iff.rfl
theorem isBook_iff {b : Bk} : isBook b = true ↔ BkOk b := by
  unfold isBook firsts
  simp only [Bool.and_eq_true, decide_eq_true_eq, ascB_iff]
  have ht : (b.tiers.map tierOk).all id = true ↔ ∀ t ∈ b.tiers, TierOk t := by
    simp [tierOk_iff]
  rw [ht]
  have hc : capOk b.cap = true ↔ ∀ c, b.cap = some c → 0 ≤ c ∧ c ≤ 1000000 := by
    cases b.cap with
    | none => exact ⟨fun _ c h => (nomatch h), fun _ => rfl⟩
    | some c => exact ⟨fun h d e => (by cases e; exact of_decide_eq_true h), fun h => decide_eq_true (h c rfl)⟩
  rw [hc]
  constructor
  · rintro ⟨⟨⟨⟨⟨h1, h2⟩, h3, h4⟩, h5⟩, h6, h7⟩, h8⟩
    exact ⟨h1, h2, h5, fun e => by rw [e] at h3; simp at h3, by omega, fun t r e => by rw [e] at h6; exact h6, h7, h8⟩
  · intro h
    refine ⟨⟨⟨⟨⟨h.b0, h.b1⟩, ?_, ?_⟩, h.tk⟩, ?_, h.as⟩, h.cp⟩
    · cases e : b.tiers with
      | nil => exact absurd e h.ne
      | cons t r => simp; omega
    · have := h.ln; omega
    · cases e : b.tiers with
      | nil => exact absurd e h.ne
      | cons t r => exact h.fz t r e
theorem rawPcs_ch {b : Bk} (h : BkOk b) : Ch (rawL b) 0 (rawPcs b) := by
  cases e : b.tiers with
  | nil => exact absurd e h.ne
  | cons t r =>
    have tk := h.tk
    have as := h.as
    have fz := h.fz t r e
    rw [e] at tk as
    have tail := rp_ch (b := b.base) tk as
    rw [fz] at tail
    have h0 : rawL b 0 = b.base := by
      unfold rawL
      rw [e]
      exact lr_low fun x hx => (tk x hx).f0
    unfold rawPcs
    have hr : (fun l => lr l b.base (t :: r)) = rawL b := by
      funext l
      unfold rawL
      rw [e]
    rw [hr] at tail
    rw [e]
    cases hp : rp b.base (t :: r) with
    | nil =>
      rw [hp] at tail
      exact tail.elim
    | cons p ps =>
      rw [hp] at tail
      refine ⟨rfl, 0, rfl, Int.le_refl _, fun l h1 h2 => ?_, tail⟩
      rw [show l = 0 by omega, h0]
      show b.base + 0 * _ = b.base
      rw [Int.zero_mul, Int.add_zero]
theorem rawL_mono {b : Bk} (h : BkOk b) {x y : Int} (hl : x ≤ y) : rawL b x ≤ rawL b y := lr_mono hl h.tk (Int.le_refl _)
theorem rawL_nn {b : Bk} (h : BkOk b) (x : Int) : 0 ≤ rawL b x := lr_nn h.tk h.b0
theorem fareL_nn {b : Bk} (h : BkOk b) (x : Int) : 0 ≤ fareL b x := by
  have h1 := rawL_nn h x
  unfold fareL
  split
  · exact h1
  · rename_i c hc
    have := h.cp c hc
    split
    · exact this.1
    · exact h1
theorem pcs_ch {b : Bk} (h : BkOk b) : Ch (fareL b) 0 (pcs b) := by
  have h1 := rawPcs_ch h
  unfold pcs
  cases hc : b.cap with
  | none =>
    have e : fareL b = rawL b := by funext l; unfold fareL; rw [hc]
    rw [e]
    exact h1
  | some c =>
    have e : fareL b = fun l => if c < rawL b l then c else rawL b l := by funext l; unfold fareL; rw [hc]
    rw [e]
    exact cut_ch (fun x y => rawL_mono h) (rawPcs_ok b h.tk) h1
theorem pcs_len {b : Bk} (h : BkOk b) : (pcs b).length ≤ 7 := by
  have h1 : (rawPcs b).length ≤ 6 := by
    have := h.ln
    simp [rawPcs, rp_len]
    omega
  unfold pcs
  cases hc : b.cap with
  | none => show (rawPcs b).length ≤ 7; omega
  | some c =>
    have := cut_len c (rawPcs b)
    show (cut c (rawPcs b)).length ≤ 7
    omega
/-! ### the last tier -/
def most0 (b : Bk) : Int := match b.tiers.getLast? with
  | some t => t.1 + t.2.1
  | none => 0
theorem lr_last {u l : Int} : ∀ {b : Int} {ts : List (Int × Int × Int)} {z : Int × Int × Int}, (∀ t ∈ ts, TierOk t) → Asc ts → ts.getLast? = some z → z.1 ≤ l → lr (l + z.2.1) b ts = lr l b ts + z.2.2
  | _, [], _, _, _, h, _ => by cases h
  | b, [t], z, hk, _, h, hl => by
    have e : t = z := Option.some.inj h
    subst e
    have ok := hk t (by simp)
    unfold lr
    rw [partF_high ok (by have := ok.u0; omega), partF_high ok (by omega), show l + t.2.1 - t.1 = (l - t.1) + t.2.1 by omega, cdiv_shift (by have := ok.u0; omega), Int.mul_add, Int.mul_one]
    omega
  | b, t :: t2 :: r, z, hk, ha, h, hl => by
    have hz : (t2 :: r).getLast? = some z := by rw [← h, List.getLast?_cons_cons]
    have hk2 : ∀ x ∈ t2 :: r, TierOk x := fun x hx => hk x (List.mem_cons_of_mem _ hx)
    have hzm : z ∈ t2 :: r := List.mem_of_getLast? hz
    have h2 : t2.1 ≤ z.1 := by
      rcases List.mem_cons.mp hzm with rfl | hx
      · exact Int.le_refl _
      · have := asc_head ha.2 z hx
        omega
    have zu := (hk2 z hzm).u0
    have ih := lr_last (u := u) (l := l) (b := b + partF t (t2.1 - t.1)) hk2 ha.2 hz hl
    unfold lr
    by_cases g : t2.1 - t.1 < l - t.1
    · rw [if_pos (by omega), if_pos g]
      exact ih
    · rw [if_pos (by omega), if_neg g, show l - t.1 = t2.1 - t.1 by omega]
      exact ih
def Tl (F : Int → Int) (m0 : Int) : Prop := ∀ x y, 1 ≤ x → m0 < y → F x + F y < F (x + y) → ∃ y', 1 ≤ y' ∧ y' < y ∧ F x + F y' < F (x + y')
theorem fare_tail {b : Bk} (h : BkOk b) : Tl (fareL b) (most0 b) := by
  intro x y hx hy hp
  cases hz : b.tiers.getLast? with
  | none => exact absurd (List.getLast?_eq_none_iff.mp hz) h.ne
  | some z =>
    have zk := h.tk z (List.mem_of_getLast? hz)
    have hm : most0 b = z.1 + z.2.1 := by unfold most0; rw [hz]
    have f0 := zk.f0
    have u0 := zk.u0
    have p0 := zk.p0
    refine ⟨y - z.2.1, by omega, by omega, ?_⟩
    have s1 := lr_last (u := 0) (b := b.base) (l := y - z.2.1) h.tk h.as hz (by omega)
    have s2 := lr_last (u := 0) (b := b.base) (l := x + (y - z.2.1)) h.tk h.as hz (by omega)
    rw [show y - z.2.1 + z.2.1 = y by omega] at s1
    rw [show x + (y - z.2.1) + z.2.1 = x + y by omega] at s2
    change rawL b y = rawL b (y - z.2.1) + z.2.2 at s1
    change rawL b (x + y) = rawL b (x + (y - z.2.1)) + z.2.2 at s2
    have hn := fareL_nn h x
    generalize hfx : fareL b x = fx at hp hn ⊢
    unfold fareL at hp ⊢
    cases hc : b.cap with
    | none =>
      rw [hc] at hp
      change fx + rawL b y < rawL b (x + y) at hp
      show fx + rawL b (y - z.2.1) < rawL b (x + (y - z.2.1))
      omega
    | some c =>
      rw [hc] at hp
      change fx + (if c < rawL b y then c else rawL b y) < (if c < rawL b (x + y) then c else rawL b (x + y)) at hp
      show fx + (if c < rawL b (y - z.2.1) then c else rawL b (y - z.2.1)) < (if c < rawL b (x + (y - z.2.1)) then c else rawL b (x + (y - z.2.1)))
      split at hp <;> split at hp <;> split <;> split <;> omega
theorem small {F : Int → Int} {m0 : Int} (h : Tl F m0) : ∀ (n : Nat) (x y : Int), (x + y).toNat ≤ n → 1 ≤ x → 1 ≤ y → F x + F y < F (x + y) → ∃ x' y', 1 ≤ x' ∧ x' ≤ y' ∧ y' ≤ m0 ∧ x' + y' ≤ x + y ∧ F x' + F y' < F (x' + y')
  | 0, x, y, hn, hx, hy, _ => by omega
  | n + 1, x, y, hn, hx, hy, hp => by
    by_cases g1 : m0 < y
    · obtain ⟨y', h1, h2, h3⟩ := h x y hx g1 hp
      obtain ⟨a, b, i1, i2, i3, i4, i5⟩ := small h n x y' (by omega) hx h1 h3
      exact ⟨a, b, i1, i2, i3, by omega, i5⟩
    · by_cases g2 : m0 < x
      · obtain ⟨x', h1, h2, h3⟩ := h y x hy g2 (by rw [Int.add_comm y x]; omega)
        obtain ⟨a, b, i1, i2, i3, i4, i5⟩ := small h n y x' (by omega) hy h1 h3
        exact ⟨a, b, i1, i2, i3, by omega, i5⟩
      · by_cases g3 : x ≤ y
        · exact ⟨x, y, hx, g3, by omega, Int.le_refl _, hp⟩
        · exact ⟨y, x, hy, by omega, by omega, by omega, by rw [Int.add_comm y x]; omega⟩
/-! ### the search -/
def rngI (lo hi : Int) : List Int := (List.range (hi - lo).toNat).map fun i : Nat => lo + (i : Int)
theorem rngI_mem {lo hi x : Int} : x ∈ rngI lo hi ↔ lo ≤ x ∧ x < hi := by
  unfold rngI
  rw [List.mem_map]
  constructor
  · rintro ⟨i, hi, rfl⟩
    have := List.mem_range.mp hi
    omega
  · rintro ⟨h1, h2⟩
    exact ⟨(x - lo).toNat, List.mem_range.mpr (by omega), by omega⟩
theorem rngI_get {lo hi : Int} {i : Nat} {x : Int} (h : (rngI lo hi)[i]? = some x) : x = lo + i := by
  unfold rngI at h
  rw [List.getElem?_map] at h
  obtain ⟨j, h1, h2⟩ := map_eq h
  have hl := (List.getElem?_eq_some_iff.mp h1).1
  rw [List.length_range] at hl
  rw [List.getElem?_range hl] at h1
  cases h1
  exact h2.symm
theorem fs_none {α : Type} {lo hi : Int} {q : Int → Option α} (h : (rngI lo hi).findSome? q = none) {x : Int} (h1 : lo ≤ x) (h2 : x < hi) : q x = none := List.findSome?_eq_none_iff.mp h x (rngI_mem.mpr ⟨h1, h2⟩)
theorem fs_some {α : Type} {lo hi : Int} {q : Int → Option α} {d : α} (h : (rngI lo hi).findSome? q = some d) : ∃ x, lo ≤ x ∧ x < hi ∧ q x = some d ∧ ∀ y, lo ≤ y → y < x → q y = none := by
  obtain ⟨l1, a, l2, e, ha, hn⟩ := List.findSome?_eq_some_iff.mp h
  have hm : a ∈ rngI lo hi := by rw [e]; simp
  have hr := rngI_mem.mp hm
  have hi1 : (rngI lo hi)[l1.length]? = some a := by rw [e]; simp
  have hx := rngI_get hi1
  refine ⟨a, hr.1, hr.2, ha, fun y h1 h2 => hn y ?_⟩
  have hy : y ∈ rngI lo hi := rngI_mem.mpr ⟨h1, by omega⟩
  obtain ⟨j, hj⟩ := List.getElem?_of_mem hy
  have hjy := rngI_get hj
  rw [e, List.getElem?_append_left (by omega)] at hj
  exact List.mem_of_getElem? hj
def q2 (F : Int → Int) (T L : Int) : Option (Int × Int) := if F L + F (T - L) < F T then some (L, T - L) else none
def q1 (F : Int → Int) (m T : Int) : Option (Int × Int) := (rngI (if T - m > 1 then T - m else 1) (T.fdiv 2 + 1)).findSome? (q2 F T)
def look (F : Int → Int) (m : Int) : Option (Int × Int) := (rngI 2 (2 * m + 1)).findSome? (q1 F m)
def LSpec (F : Int → Int) : Option (Int × Int) → Prop
  | none => ∀ x y, 1 ≤ x → 1 ≤ y → ¬ F x + F y < F (x + y)
  | some p => ∃ T L, p = (L, T - L) ∧ 1 ≤ L ∧ L ≤ T - L ∧ F L + F (T - L) < F T ∧ (∀ x y, 1 ≤ x → 1 ≤ y → x + y < T → ¬ F x + F y < F (x + y)) ∧ ∀ x, 1 ≤ x → x < L → ¬ F x + F (T - x) < F T
theorem q2_none {F : Int → Int} {T L : Int} (h : q2 F T L = none) : ¬ F L + F (T - L) < F T := by
  intro g
  unfold q2 at h
  rw [if_pos g] at h
  cases h
theorem look_small {F : Int → Int} {m0 m : Int} (hm : m0 ≤ m) {B : Int} (hB : B ≤ 2 * m + 1) (h : Tl F m0) (hn : ∀ T, 2 ≤ T → T < B → q1 F m T = none) : ∀ x y, 1 ≤ x → 1 ≤ y → x + y < B → ¬ F x + F y < F (x + y) := by
  intro x y hx hy hxy hp
  obtain ⟨a, b, h1, h2, h3, h4, h5⟩ := small h _ x y (Nat.le_refl _) hx hy hp
  have h6 := hn (a + b) (by omega) (by omega)
  unfold q1 at h6
  have h7 := fs_none h6 (x := a) (by split <;> omega) (by rw [Int.fdiv_eq_ediv_of_nonneg _ (by decide)]; omega)
  have := q2_none h7
  rw [show a + b - a = b by omega] at this
  exact this h5
theorem look_spec {F : Int → Int} {m0 m : Int} (h : Tl F m0) (hm : m0 ≤ m) : LSpec F (look F m) := by
  cases hl : look F m with
  | none =>
    unfold look at hl
    intro x y hx hy hp
    obtain ⟨a, b, h1, h2, h3, h4, h5⟩ := small h _ x y (Nat.le_refl _) hx hy hp
    exact look_small hm (Int.le_refl _) h (fun T h1 h2 => fs_none hl h1 h2) a b h1 (by omega) (by omega) h5
  | some p =>
    unfold look at hl
    obtain ⟨T, t1, t2, t3, t4⟩ := fs_some hl
    unfold q1 at t3
    obtain ⟨L, l1, l2, l3, l4⟩ := fs_some t3
    unfold q2 at l3
    have hL : 1 ≤ L := by split at l1 <;> omega
    rw [Int.fdiv_eq_ediv_of_nonneg _ (by decide)] at l2
    by_cases g : F L + F (T - L) < F T
    · rw [if_pos g] at l3
      have low := look_small hm (B := T) (by omega) h fun x h1 h2 => t4 x h1 h2
      refine ⟨T, L, (Option.some.inj l3).symm, hL, by omega, g, low, fun x hx hxL hp => ?_⟩
      by_cases g2 : (if T - m > 1 then T - m else 1) ≤ x
      · exact q2_none (l4 x g2 hxL) hp
      · have g3 : T - m > x := by split at g2 <;> omega
        obtain ⟨y', y1, y2, y3⟩ := h x (T - x) hx (by omega) (by rw [show x + (T - x) = T by omega]; exact hp)
        exact low x y' hx y1 (by omega) y3
    · rw [if_neg g] at l3
      cases l3
theorem spec_one {F : Int → Int} : ∀ {r s : Option (Int × Int)}, LSpec F r → LSpec F s → r = s
  | none, none, _, _ => rfl
  | none, some p, h, ⟨T, L, e, h1, h2, h3, _⟩ => absurd (by rw [show L + (T - L) = T by omega]; exact h3) (h L (T - L) h1 (by omega))
  | some p, none, ⟨T, L, e, h1, h2, h3, _⟩, h => absurd (by rw [show L + (T - L) = T by omega]; exact h3) (h L (T - L) h1 (by omega))
  | some p, some p', ⟨T, L, e, h1, h2, h3, h4, h5⟩, ⟨T', L', e', h1', h2', h3', h4', h5'⟩ => by
    have e1 : ¬ T < T' := fun g => h4' L (T - L) h1 (by omega) (by omega) (by rw [show L + (T - L) = T by omega]; exact h3)
    have e2 : ¬ T' < T := fun g => h4 L' (T' - L') h1' (by omega) (by omega) (by rw [show L' + (T' - L') = T' by omega]; exact h3')
    have eT : T' = T := by omega
    subst eT
    have e3 : ¬ L < L' := fun g => h5' L h1 g h3
    have e4 : ¬ L' < L := fun g => h5 L' h1' g h3'
    rw [e, e', show L = L' by omega]
theorem rngD_I (lo hi : Int) : rngD lo hi = (rngI lo hi).map .int := by
  unfold rngD rngI
  rw [List.map_map]
  rfl
theorem rngI_len {lo hi : Int} : (rngI lo hi).length = (hi - lo).toNat := by simp [rngI]
theorem rngI_at {f : Int → D} {hi x : Int} (h0 : 0 ≤ x) (h1 : x < hi) : atI ((rngI 0 hi).map f) x = some (f x) := by
  have e : (rngI 0 hi)[x.toNat]? = some x := by
    unfold rngI
    rw [List.getElem?_map, List.getElem?_range (by omega)]
    show some (0 + (x.toNat : Int)) = some x
    rw [show (0 + (x.toNat : Int)) = x by omega]
  exact atI_map e (by omega)
theorem forGo_fs {G : EG} {b : ES} {M : Sto} {I : Rho → Prop} {q : Int → Option D} : ∀ (xs : List Int), (∀ x ∈ xs, ∀ ρ, I ρ → (q x = none → ∃ ρ1, turn G b (.int x) ρ M = some (.nx ρ1, M) ∧ I ρ1) ∧ ∀ d, q x = some d → turn G b (.int x) ρ M = some (.rt d, M)) → ∀ ρ, I ρ →
    (xs.findSome? q = none → ∃ ρ1, forGo G b none (xs.map .int) ρ M = some (.nx ρ1, M) ∧ I ρ1) ∧ ∀ d, xs.findSome? q = some d → forGo G b none (xs.map .int) ρ M = some (.rt d, M)
  | [], _, ρ, hi => ⟨fun _ => ⟨ρ, rfl, hi⟩, fun d h => nomatch h⟩
  | x :: xs, h, ρ, hi => by
    obtain ⟨h1, h2⟩ := h x (by simp) ρ hi
    rw [List.findSome?_cons, List.map_cons]
    cases hq : q x with
    | none =>
      obtain ⟨ρ1, h3, h4⟩ := h1 hq
      obtain ⟨h5, h6⟩ := forGo_fs xs (fun y hy => h y (List.mem_cons_of_mem _ hy)) ρ1 h4
      exact ⟨fun e => by rw [forGo_nx h3]; exact h5 e, fun d e => by rw [forGo_nx h3]; exact h6 d e⟩
    | some d =>
      refine ⟨fun e => (nomatch e), fun d' e => ?_⟩
      cases e
      exact forGo_rt (h2 _ hq)
def encP (p : Int × Int) : D := .tup [.int p.1, .int p.2]
def encR : Option (Int × Int) → D
  | none => .non
  | some p => encP p
theorem pure_encR (r : Option (Int × Int)) : pureD (encR r) = true := by cases r <;> simp [encR, encP, pureD, pureL]
theorem cut_ok {c : Int} : ∀ {ps : List Pc}, (∀ p ∈ ps, PcOk p) → ∀ p ∈ cut c ps, PcOk p
  | [], _, p, h => by cases h
  | p :: r, hk, x, h => by
    have ok := hk p (by simp)
    have z : ∀ l, PcOk ⟨l, none, c, 0, 1, 0⟩ := fun l => ⟨by show (1 : Int) ≤ 1; decide, by show (1 : Int) ≤ 60; decide, by show (0 : Int) ≤ 0; decide, by show (0 : Int) ≤ 1000; decide⟩
    unfold cut at h
    cases hf : fa p c with
    | none =>
      rw [hf] at h
      rcases List.mem_cons.mp h with rfl | h
      · exact ok
      · exact cut_ok (fun y hy => hk y (List.mem_cons_of_mem _ hy)) x h
    | some l =>
      rw [hf] at h
      by_cases g : p.start < l
      · simp only [if_pos g, List.cons_append, List.nil_append, List.mem_cons, List.not_mem_nil, or_false] at h
        rcases h with rfl | rfl
        · exact ⟨ok.u0, ok.u1, ok.p0, ok.p1⟩
        · exact z l
      · simp only [if_neg g, List.nil_append, List.mem_cons, List.not_mem_nil, or_false] at h
        rw [h]
        exact z l
theorem pcs_ok {b : Bk} (h : BkOk b) : ∀ p ∈ pcs b, PcOk p := by
  have h1 := rawPcs_ok b h.tk
  unfold pcs
  cases b.cap with
  | none => exact h1
  | some c => exact cut_ok h1
/-! ### between two pieces -/
theorem cdiv_add {x u m : Int} (hu : 0 < u) : cdiv (x + u * m) u = cdiv x u + m := by
  unfold cdiv
  rw [Int.fdiv_eq_ediv_of_nonneg _ (Int.le_of_lt hu), Int.fdiv_eq_ediv_of_nonneg _ (Int.le_of_lt hu), show -(x + u * m) = -x + u * (-m) by rw [Int.mul_neg]; omega, Int.add_mul_ediv_left _ _ (by omega)]
  omega
def per (p q : Pc) : Int := ((Nat.lcm p.unit.natAbs q.unit.natAbs : Nat) : Int)
theorem per_pos {p q : Pc} (hp : PcOk p) (hq : PcOk q) : 0 < per p q := by
  have h1 := hp.u0
  have h2 := hq.u0
  have := Nat.lcm_pos (m := p.unit.natAbs) (n := q.unit.natAbs) (by omega) (by omega)
  unfold per
  omega
theorem per_le {p q : Pc} (hp : PcOk p) (hq : PcOk q) : per p q ≤ 3600 := by
  have h1 := hp.u0
  have h2 := hq.u0
  have h3 := hp.u1
  have h4 := hq.u1
  have h := Nat.lcm_le_mul (m := p.unit.natAbs) (n := q.unit.natAbs) (by omega) (by omega)
  have h5 : p.unit.natAbs * q.unit.natAbs ≤ 60 * 60 := Nat.mul_le_mul (by omega) (by omega)
  unfold per
  omega
theorem per_l {p q : Pc} (hp : PcOk p) : p.unit * (per p q).fdiv p.unit = per p q := by
  have h1 := hp.u0
  have hd : p.unit ∣ per p q := by
    unfold per
    rw [← Int.natAbs_dvd]
    exact Int.natCast_dvd_natCast.mpr (Nat.dvd_lcm_left _ _)
  rw [Int.fdiv_eq_ediv_of_nonneg _ (by omega)]
  exact Int.mul_ediv_cancel' hd
theorem per_r {p q : Pc} (hq : PcOk q) : q.unit * (per p q).fdiv q.unit = per p q := by
  have h1 := hq.u0
  have hd : q.unit ∣ per p q := by
    unfold per
    rw [← Int.natAbs_dvd]
    exact Int.natCast_dvd_natCast.mpr (Nat.dvd_lcm_right _ _)
  rw [Int.fdiv_eq_ediv_of_nonneg _ (by omega)]
  exact Int.mul_ediv_cancel' hd
def riseB (p q : Pc) : Int := p.price * (per p q).fdiv p.unit - q.price * (per p q).fdiv q.unit
def more (p q : Pc) (l : Int) : Int := p.fare l - q.fare l
theorem more_shift {p q : Pc} (hp : PcOk p) (hq : PcOk q) (l j : Int) : more p q (l + per p q * j) = more p q l + riseB p q * j := by
  have e1 : cdiv (l + per p q * j - p.first) p.unit = cdiv (l - p.first) p.unit + (per p q).fdiv p.unit * j := by
    rw [← cdiv_add (by have := hp.u0; omega), ← Int.mul_assoc, per_l hp]
    congr 1
    omega
  have e2 : cdiv (l + per p q * j - q.first) q.unit = cdiv (l - q.first) q.unit + (per p q).fdiv q.unit * j := by
    rw [← cdiv_add (by have := hq.u0; omega), ← Int.mul_assoc, per_r hq]
    congr 1
    omega
  unfold more Pc.fare riseB
  rw [e1, e2, Int.mul_add, Int.mul_add, Int.sub_mul, ← Int.mul_assoc, ← Int.mul_assoc]
  omega
def within (hi : Option Int) (l : Int) : Prop := ∀ e, hi = some e → l ≤ e
def LeastIn (G : Int → Int) (lo : Int) (hi : Option Int) : Option Int → Prop
  | none => ∀ l, lo ≤ l → within hi l → G l ≤ 0
  | some x => lo ≤ x ∧ within hi x ∧ 0 < G x ∧ ∀ l, lo ≤ l → l < x → G l ≤ 0
def candB (p q : Pc) (l : Int) : Int := l + per p q * ((-(more p q l)).fdiv (riseB p q) + 1)
/-- lengths of a class behind the first period -/
theorem cand_least {p q : Pc} (hp : PcOk p) (hq : PcOk q) {l j : Int} (hr : 0 < riseB p q) : 0 < more p q (l + per p q * j) ↔ candB p q l ≤ l + per p q * j := by
  rw [more_shift hp hq]
  have hP := per_pos hp hq
  unfold candB
  rw [Int.fdiv_eq_ediv_of_nonneg _ (Int.le_of_lt hr)]
  have h1 := Int.ediv_lt_iff_lt_mul (a := -(more p q l)) (b := j) hr
  have h2 : per p q * (-(more p q l) / riseB p q + 1) ≤ per p q * j ↔ -(more p q l) / riseB p q + 1 ≤ j := Int.mul_le_mul_left hP
  rw [Int.mul_comm (riseB p q) j]
  constructor
  · intro h
    have := h1.mpr (by omega)
    have := h2.mpr (by omega)
    omega
  · intro h
    have := h2.mp (by omega)
    have := h1.mp (by omega)
    omega
/-- what the search over the first period comes to -/
theorem btw_spec {p q : Pc} (hp : PcOk p) (hq : PcOk q) {s last : Int} {stop : Option Int} {cs : List Int} {r : Option Int} (hl1 : last ≤ s + per p q - 1) (hl2 : ∀ l, s ≤ l → l ≤ s + per p q - 1 → within stop l → l ≤ last)
    (low : ∀ l, s ≤ l → l ≤ last → more p q l ≤ 0) (hcs : ∀ x, x ∈ cs ↔ 0 < riseB p q ∧ ∃ l, s ≤ l ∧ l ≤ last ∧ x = candB p q l ∧ within stop x)
    (hr : (cs = [] ∧ r = none) ∨ ∃ m, r = some m ∧ m ∈ cs ∧ ∀ y ∈ cs, m ≤ y) : LeastIn (more p q) s stop r := by
  have hP := per_pos hp hq
  have key : ∀ l, s ≤ l → within stop l → 0 < more p q l → ∃ x ∈ cs, x ≤ l := by
    intro l hl hw hm
    have e1 : l = (l - per p q * ((l - s) / per p q)) + per p q * ((l - s) / per p q) := by omega
    have h1 := Int.emod_nonneg (l - s) (show per p q ≠ 0 by omega)
    have h2 := Int.emod_lt_of_pos (l - s) hP
    have h3 := Int.mul_ediv_add_emod (l - s) (per p q)
    have h4 : 0 ≤ (l - s) / per p q := Int.ediv_nonneg (by omega) (by omega)
    have h5 : 0 ≤ per p q * ((l - s) / per p q) := Int.mul_nonneg (by omega) h4
    have hb1 : s ≤ l - per p q * ((l - s) / per p q) := by omega
    have hb2 : l - per p q * ((l - s) / per p q) ≤ last := hl2 _ hb1 (by omega) fun e he => by have := hw e he; omega
    have hlow := low _ hb1 hb2
    generalize l - per p q * ((l - s) / per p q) = L at e1 hb1 hb2 hlow
    generalize (l - s) / per p q = j at e1 h4 h5
    have hr : 0 < riseB p q := by
      by_cases g : 0 < riseB p q
      · exact g
      · rw [e1, more_shift hp hq] at hm
        have := Int.mul_nonneg_of_nonpos_of_nonpos (a := riseB p q) (b := -j) (by omega) (by omega)
        rw [Int.mul_neg] at this
        omega
    rw [e1] at hm
    have hc := (cand_least hp hq hr).mp hm
    refine ⟨candB p q L, (hcs _).mpr ⟨hr, L, hb1, hb2, rfl, fun e he => ?_⟩, by omega⟩
    have := hw e he
    omega
  have good : ∀ x ∈ cs, s ≤ x ∧ within stop x ∧ 0 < more p q x := by
    intro x hx
    obtain ⟨hr, l, h1, h2, h3, h4⟩ := (hcs x).mp hx
    have hlow := low l h1 h2
    have hn : 0 ≤ (-(more p q l)).fdiv (riseB p q) := by
      rw [Int.fdiv_eq_ediv_of_nonneg _ (Int.le_of_lt hr)]
      exact Int.ediv_nonneg (by omega) (by omega)
    have hge : 0 ≤ per p q * ((-(more p q l)).fdiv (riseB p q) + 1) := Int.mul_nonneg (by omega) (by omega)
    refine ⟨?_, h4, ?_⟩
    · rw [h3]
      unfold candB
      omega
    · have := (cand_least hp hq (l := l) (j := (-(more p q l)).fdiv (riseB p q) + 1) hr).mpr (Int.le_refl _)
      rw [h3]
      exact this
  rcases hr with ⟨rfl, rfl⟩ | ⟨m, rfl, hm, hmin⟩
  · intro l hl hw
    by_cases g : 0 < more p q l
    · obtain ⟨x, hx, _⟩ := key l hl hw g
      cases hx
    · omega
  · obtain ⟨g1, g2, g3⟩ := good m hm
    refine ⟨g1, g2, g3, fun l hl hlt => ?_⟩
    by_cases g : 0 < more p q l
    · obtain ⟨x, hx, hxl⟩ := key l hl (fun e he => by have := g2 e he; omega) g
      have := hmin x hx
      omega
    · omega
theorem minOf_spec : ∀ {ns : List Int}, (ns = [] ∧ minOf ns = none) ∨ ∃ m, minOf ns = some m ∧ m ∈ ns ∧ ∀ y ∈ ns, m ≤ y
  | [] => .inl ⟨rfl, rfl⟩
  | x :: r => by
    obtain ⟨h1, h2⟩ := foldMin_spec r x
    exact .inr ⟨_, rfl, h1, h2⟩
def lastB (p q : Pc) (s : Int) (stop : Option Int) : Int := match stop with
  | none => s + per p q - 1
  | some e => if e < s + per p q - 1 then e else s + per p q - 1
def withinB (stop : Option Int) (l : Int) : Bool := match stop with
  | none => true
  | some e => decide (l ≤ e)
theorem within_iff {stop : Option Int} {l : Int} : withinB stop l = true ↔ within stop l := by
  cases stop with
  | none => exact ⟨fun _ e he => (nomatch he), fun _ => rfl⟩
  | some e => exact ⟨fun h e' he => by cases he; exact of_decide_eq_true h, fun h => decide_eq_true (h e rfl)⟩
theorem btw_turn {p q : Pc} (hp : PcOk p) (hq : PcOk q) (st : Option Int) (s last l : Int) (acc : List Int) (hz : acc.length < 5000) (a8 a9 : Option D) :
    (0 < more p q l → turn (gN 8) (sSeq (sAsg (eBin oSub (eMeth 0 "fare" f_Piece_fare (eVar 0) (aCons (eVar 8) (aNil))) (eMeth 0 "fare" f_Piece_fare (eVar 1) (aCons (eVar 8) (aNil)))) (gN 9)) (sSeq (sIf (bTest (eBin oGt (eVar 9) (eC (.int 0)))) (sRet (eVar 8)) (sNext)) (sIf (bTest (eBin oGt (eVar 6) (eC (.int 0)))) (sDrop (eApp (eVar 7) (eBin oAdd (eVar 8) (eBin oMul (eVar 4) (eBin oAdd (eBin oFdiv (eUn oNeg (eVar 9)) (eVar 6)) (eC (.int 1))))))) (sNext)))) (.int l) [some (encPc p), some (encPc q), some (.int s), some (encO st), some (.int (per p q)), some (.int last), some (.int (riseB p q)), some (.loc 0), a8, a9] [.lst (acc.map .int)] = some (.rt (.int l), [.lst (acc.map .int)])) ∧
    (¬ 0 < more p q l → turn (gN 8) (sSeq (sAsg (eBin oSub (eMeth 0 "fare" f_Piece_fare (eVar 0) (aCons (eVar 8) (aNil))) (eMeth 0 "fare" f_Piece_fare (eVar 1) (aCons (eVar 8) (aNil)))) (gN 9)) (sSeq (sIf (bTest (eBin oGt (eVar 9) (eC (.int 0)))) (sRet (eVar 8)) (sNext)) (sIf (bTest (eBin oGt (eVar 6) (eC (.int 0)))) (sDrop (eApp (eVar 7) (eBin oAdd (eVar 8) (eBin oMul (eVar 4) (eBin oAdd (eBin oFdiv (eUn oNeg (eVar 9)) (eVar 6)) (eC (.int 1))))))) (sNext)))) (.int l) [some (encPc p), some (encPc q), some (.int s), some (encO st), some (.int (per p q)), some (.int last), some (.int (riseB p q)), some (.loc 0), a8, a9] [.lst (acc.map .int)] =
      some (.nx [some (encPc p), some (encPc q), some (.int s), some (encO st), some (.int (per p q)), some (.int last), some (.int (riseB p q)), some (.loc 0), some (.int l), some (.int (more p q l))], [.lst ((acc ++ (if 0 < riseB p q then [candB p q l] else [])).map .int)])) := by
  have f1 := hp.run l
  have f2 := hq.run l
  have pl := per_le hp hq
  have pp := per_pos hp hq
  have m1 : ∀ x, mulOk (per p q) x = true := fun x => mulOk_l (by omega) (by omega)
  have hz2 : (acc.length < 1000000) = True := eq_true (by omega)
  have hm : p.fare l - q.fare l = more p q l := rfl
  refine ⟨fun g => ?_, fun g => ?_⟩
  · walk_at "p*"
  · by_cases hr : 0 < riseB p q
    · have hr0 : (riseB p q = 0) = False := eq_false (by omega)
      have hr1 : ((riseB p q).natAbs < 1073741824) = True := by
        refine eq_true ?_
        have h1 := hp.p1
        have h2 := hp.p0
        have h3 := hq.p0
        have e1 : (per p q).fdiv p.unit ≤ 3600 := by
          rw [Int.fdiv_eq_ediv_of_nonneg _ (by have := hp.u0; omega)]
          exact Int.le_trans (Int.ediv_le_self _ (by omega)) pl
        have e2 : 0 ≤ (per p q).fdiv p.unit := by
          rw [Int.fdiv_eq_ediv_of_nonneg _ (by have := hp.u0; omega)]
          exact Int.ediv_nonneg (by omega) (by have := hp.u0; omega)
        have e3 : 0 ≤ (per p q).fdiv q.unit := by
          rw [Int.fdiv_eq_ediv_of_nonneg _ (by have := hq.u0; omega)]
          exact Int.ediv_nonneg (by omega) (by have := hq.u0; omega)
        have e4 : p.price * (per p q).fdiv p.unit ≤ 1000 * 3600 := Int.mul_le_mul h1 e1 e2 (by decide)
        have e5 : 0 ≤ q.price * (per p q).fdiv q.unit := Int.mul_nonneg h3 e3
        unfold riseB at hr ⊢
        omega
      rw [if_pos hr, List.map_append]
      unfold candB
      walk_at "p*"
    · rw [if_neg hr, List.append_nil]
      walk_at "p*"
theorem rngI_snoc {lo : Int} {k : Nat} : rngI lo (lo + (k : Int) + 1) = rngI lo (lo + (k : Int)) ++ [lo + (k : Int)] := by
  unfold rngI
  rw [show (lo + (k : Int) + 1 - lo).toNat = k + 1 by omega, show (lo + (k : Int) - lo).toNat = k by omega, List.range_succ, List.map_append]
  rfl
def foundB (p q : Pc) (s e : Int) : List Int := if 0 < riseB p q then (rngI s e).map (candB p q) else []
def BtwP (p q : Pc) (s : Int) (stop : Option Int) (k : Nat) (ρ : Rho) (M : Sto) : Prop := ∃ (a8 a9 : Option D), ρ = [some (encPc p), some (encPc q), some (.int s), some (encO stop), some (.int (per p q)), some (.int (lastB p q s stop)), some (.int (riseB p q)), some (.loc 0), a8, a9] ∧ M = [.lst ((foundB p q s (s + (k : Int))).map .int)] ∧ ∀ l, s ≤ l → l < s + (k : Int) → more p q l ≤ 0
def BtwR (p q : Pc) (s : Int) (stop : Option Int) (k : Nat) (d : D) (M : Sto) : Prop := d = .int (s + (k : Int)) ∧ 0 < more p q (s + (k : Int)) ∧ s + (k : Int) ≤ lastB p q s stop ∧ ∀ l, s ≤ l → l < s + (k : Int) → more p q l ≤ 0
theorem btw_loop {p q : Pc} (hp : PcOk p) (hq : PcOk q) (s : Int) (stop : Option Int) (hl1 : lastB p q s stop ≤ s + per p q - 1) : (∃ ρ1 M1, forGo (gN 8) (sSeq (sAsg (eBin oSub (eMeth 0 "fare" f_Piece_fare (eVar 0) (aCons (eVar 8) (aNil))) (eMeth 0 "fare" f_Piece_fare (eVar 1) (aCons (eVar 8) (aNil)))) (gN 9)) (sSeq (sIf (bTest (eBin oGt (eVar 9) (eC (.int 0)))) (sRet (eVar 8)) (sNext)) (sIf (bTest (eBin oGt (eVar 6) (eC (.int 0)))) (sDrop (eApp (eVar 7) (eBin oAdd (eVar 8) (eBin oMul (eVar 4) (eBin oAdd (eBin oFdiv (eUn oNeg (eVar 9)) (eVar 6)) (eC (.int 1))))))) (sNext)))) none (rngD s (lastB p q s stop + 1)) [some (encPc p), some (encPc q), some (.int s), some (encO stop), some (.int (per p q)), some (.int (lastB p q s stop)), some (.int (riseB p q)), some (.loc 0), none, none] [.lst []] = some (.nx ρ1, M1) ∧ BtwP p q s stop (0 + (rngD s (lastB p q s stop + 1)).length) ρ1 M1) ∨
    ∃ i e M1, i < (rngD s (lastB p q s stop + 1)).length ∧ forGo (gN 8) (sSeq (sAsg (eBin oSub (eMeth 0 "fare" f_Piece_fare (eVar 0) (aCons (eVar 8) (aNil))) (eMeth 0 "fare" f_Piece_fare (eVar 1) (aCons (eVar 8) (aNil)))) (gN 9)) (sSeq (sIf (bTest (eBin oGt (eVar 9) (eC (.int 0)))) (sRet (eVar 8)) (sNext)) (sIf (bTest (eBin oGt (eVar 6) (eC (.int 0)))) (sDrop (eApp (eVar 7) (eBin oAdd (eVar 8) (eBin oMul (eVar 4) (eBin oAdd (eBin oFdiv (eUn oNeg (eVar 9)) (eVar 6)) (eC (.int 1))))))) (sNext)))) none (rngD s (lastB p q s stop + 1)) [some (encPc p), some (encPc q), some (.int s), some (encO stop), some (.int (per p q)), some (.int (lastB p q s stop)), some (.int (riseB p q)), some (.loc 0), none, none] [.lst []] = some (.rt e, M1) ∧ BtwR p q s stop (0 + i) e M1 := by
  have pl := per_le hp hq
  refine forGo_find (BtwP p q s stop) (BtwR p q s stop) _ 0 _ _ ?_ ⟨none, none, rfl, ?_, fun l h1 h2 => by omega⟩
  · rintro i d ρ M hd ⟨a8, a9, rfl, rfl, low⟩
    have hj := (List.getElem?_eq_some_iff.mp hd).1
    rw [rngD_len] at hj
    obtain ⟨rfl, hk⟩ := rng_get hd
    rw [Nat.zero_add] at low ⊢
    have hz : (foundB p q s (s + (i : Int))).length < 5000 := by
      unfold foundB
      split
      · rw [List.length_map, rngI_len]
        omega
      · decide
    obtain ⟨t1, t2⟩ := btw_turn hp hq stop s (lastB p q s stop) (s + (i : Int)) _ hz a8 a9
    by_cases g : 0 < more p q (s + (i : Int))
    · exact .inr ⟨_, _, t1 g, rfl, g, by omega, low⟩
    · refine .inl ⟨_, _, t2 g, _, _, rfl, ?_, fun l h1 h2 => ?_⟩
      · congr 2
        unfold foundB
        by_cases hr : 0 < riseB p q
        · rw [if_pos hr, if_pos hr, if_pos hr, show s + ((i + 1 : Nat) : Int) = s + (i : Int) + 1 by omega, rngI_snoc, List.map_append (f := candB p q)]
          rfl
        · rw [if_neg hr, if_neg hr, if_neg hr]
          rfl
      · by_cases e : l = s + (i : Int)
        · rw [e]; omega
        · exact low l h1 (by omega)
  · unfold foundB
    have : rngI s (s + ((0 : Nat) : Int)) = [] := by unfold rngI; rw [show (s + ((0 : Nat) : Int) - s).toNat = 0 by omega]; rfl
    rw [this]
    split <;> rfl
theorem run_btw {p q : Pc} (hp : PcOk p) (hq : PcOk q) (s : Int) (stop : Option Int) (hs0 : 0 ≤ s) (hs1 : s ≤ 1000000000) (hst : ∀ e, stop = some e → s - 1 ≤ e) : ∃ r, f_first_between [encPc p, encPc q, .int s, encO stop] = some (encO r) ∧ LeastIn (more p q) s stop r := by
  have pl := per_le hp hq
  have pp := per_pos hp hq
  have u1 := hp.u0
  have u2 := hq.u0
  have u3 := hp.u1
  have u4 := hq.u1
  have w1 : (p.unit.natAbs < 18446744073709551616) = True := eq_true (by omega)
  have w2 : (q.unit.natAbs < 18446744073709551616) = True := eq_true (by omega)
  have hl1 : lastB p q s stop ≤ s + per p q - 1 := by unfold lastB; split <;> (try split) <;> omega
  have hl0 : s - 1 ≤ lastB p q s stop := by
    unfold lastB
    split
    · omega
    · have := hst _ rfl
      split <;> omega
  have hl2 : ∀ l, s ≤ l → l ≤ s + per p q - 1 → within stop l → l ≤ lastB p q s stop := by
    intro l h1 h2 h3
    unfold lastB
    split
    · exact h2
    · rename_i e
      have := h3 e rfl
      split <;> omega
  have hin : ∀ l, s ≤ l → l ≤ lastB p q s stop → within stop l := by
    intro l h1 h2 e he
    subst he
    unfold lastB at h2
    dsimp only at h2
    split at h2 <;> omega
  -- the statements ahead of the loop
  have ahead : ∀ R, (∀ a8 a9 : Option D, forGo (gN 8) (sSeq (sAsg (eBin oSub (eMeth 0 "fare" f_Piece_fare (eVar 0) (aCons (eVar 8) (aNil))) (eMeth 0 "fare" f_Piece_fare (eVar 1) (aCons (eVar 8) (aNil)))) (gN 9)) (sSeq (sIf (bTest (eBin oGt (eVar 9) (eC (.int 0)))) (sRet (eVar 8)) (sNext)) (sIf (bTest (eBin oGt (eVar 6) (eC (.int 0)))) (sDrop (eApp (eVar 7) (eBin oAdd (eVar 8) (eBin oMul (eVar 4) (eBin oAdd (eBin oFdiv (eUn oNeg (eVar 9)) (eVar 6)) (eC (.int 1))))))) (sNext)))) none (rngD s (lastB p q s stop + 1)) [some (encPc p), some (encPc q), some (.int s), some (encO stop), some (.int (per p q)), some (.int (lastB p q s stop)), some (.int (riseB p q)), some (.loc 0), none, none] [.lst []] = R) →
      B_first_between [some (encPc p), some (encPc q), some (.int s), some (encO stop), none, none, none, none, none, none] [] = seq1 (sSeq (sFrz 7) (sSeq (sAsg (eMlt (lLc (iSq (eVar 7)) (gN 8) (bOr (bTest (eBin oIsN (eVar 3) (eC .non))) (bTest (eBin oLe (eVar 8) (eVar 3)))) (eVar 8) [8])) (gN 7)) (sSeq (sFrz 7) (sSeq (sIf (bTest (eBin oEq (eCa cLen (aCons (eVar 7) (aNil))) (eC (.int 0)))) (sRet (eC .non)) (sNext)) (sSeq (sFrz 7) (sRet (eCa cMin (aCons (eVar 7) (aNil))))))))) R := by
    intro R hR
    have hR := hR none none
    have r1 : (-1152921504606846976 ≤ s) = True := eq_true (by omega)
    have r2 : (s < 1152921504606846976) = True := eq_true (by omega)
    have r3 : (-1152921504606846976 ≤ lastB p q s stop + 1) = True := eq_true (by omega)
    have r4 : (lastB p q s stop + 1 < 1152921504606846976) = True := eq_true (by omega)
    have m1 : ∀ x, mulOk p.price x = true := fun x => mulOk_l (by have := hp.p0; omega) (by have := hp.p1; omega)
    have m2 : ∀ x, mulOk q.price x = true := fun x => mulOk_l (by have := hq.p0; omega) (by have := hq.p1; omega)
    have z1 : (p.unit = 0) = False := eq_false (by omega)
    have z2 : (q.unit = 0) = False := eq_false (by omega)
    have z3 : (p.unit.natAbs < 1073741824) = True := eq_true (by omega)
    have z4 : (q.unit.natAbs < 1073741824) = True := eq_true (by omega)
    have hper : ((Nat.lcm p.unit.natAbs q.unit.natAbs : Nat) : Int) = per p q := rfl
    have hrise : p.price * (per p q).fdiv p.unit - q.price * (per p q).fdiv q.unit = riseB p q := rfl
    generalize hrest : (sSeq (sFrz 7) (sSeq (sAsg (eMlt (lLc (iSq (eVar 7)) (gN 8) (bOr (bTest (eBin oIsN (eVar 3) (eC .non))) (bTest (eBin oLe (eVar 8) (eVar 3)))) (eVar 8) [8])) (gN 7)) (sSeq (sFrz 7) (sSeq (sIf (bTest (eBin oEq (eCa cLen (aCons (eVar 7) (aNil))) (eC (.int 0)))) (sRet (eC .non)) (sNext)) (sSeq (sFrz 7) (sRet (eCa cMin (aCons (eVar 7) (aNil))))))))) = rest
    unfold B_first_between
    rw [hrest]
    cases stop with
    | none =>
      rw [show lastB p q s none = s + per p q - 1 from rfl] at hR r3 r4
      rw [encO_n] at hR
      walk_at "p*"
    | some e =>
      by_cases g : e < s + per p q - 1
      · rw [show lastB p q s (some e) = e from if_pos g] at hR r3 r4
        rw [encO_s] at hR
        walk_at "p*"
      · rw [show lastB p q s (some e) = s + per p q - 1 from if_neg g] at hR r3 r4
        rw [encO_s] at hR
        walk_at "p*"
  have el : (rngD s (lastB p q s stop + 1)).length = (lastB p q s stop + 1 - s).toNat := rngD_len
  rcases btw_loop hp hq s stop hl1 with ⟨ρ1, M1, e, a8, a9, rfl, rfl, low⟩ | ⟨i, d, M1, hi, e, rfl, hm, hle, low⟩
  · have ha := ahead _ fun _ _ => e
    rw [el, Nat.zero_add, show s + ((lastB p q s stop + 1 - s).toNat : Int) = lastB p q s stop + 1 by omega] at low ha
    have hfl : (foundB p q s (lastB p q s stop + 1)).length ≤ 1000000 := by
      unfold foundB
      split
      · rw [List.length_map, rngI_len]
        omega
      · decide
    have fin : ∃ M2, B_first_between [some (encPc p), some (encPc q), some (.int s), some (encO stop), none, none, none, none, none, none] [] = some (.rt (encO (minOf ((foundB p q s (lastB p q s stop + 1)).filter (withinB stop)))), M2) := by
      rw [ha]
      have lc : lcGo (gN 8) (bOr (bTest (eBin oIsN (eVar 3) (eC .non))) (bTest (eBin oLe (eVar 8) (eVar 3)))) (eVar 8) none [some (encPc p), some (encPc q), some (.int s), some (encO stop), some (.int (per p q)), some (.int (lastB p q s stop)), some (.int (riseB p q)), some (.lst ((foundB p q s (lastB p q s stop + 1)).map .int)), none, a9] ((foundB p q s (lastB p q s stop + 1)).map .int) [] [.dead] = some (((foundB p q s (lastB p q s stop + 1)).filter (withinB stop)).map .int, [.dead]) := by
        refine lcGo_filter .int (withinB stop) .int _ [] fun x _ => ⟨_, rfl, ?_, fun _ => rfl⟩
        cases stop with
        | none => walk_at "p*"; rfl
        | some e => 
          unfold withinB
          walk_at "p*"
      generalize (foundB p q s (lastB p q s stop + 1)) = fs at lc hfl ⊢
      have p1 : pureL (fs.map .int) = true := pureL_map fun _ => rfl
      have p2 : pureL ((fs.filter (withinB stop)).map .int) = true := pureL_map fun _ => rfl
      rcases minOf_spec (ns := fs.filter (withinB stop)) with ⟨h1, h2⟩ | ⟨m, h1, h2, _⟩
      · rw [h2]
        rw [h1] at lc
        refine ⟨[.dead, .dead], ?_⟩
        walk_at "p*"
      · have hne : (((fs.filter (withinB stop)).length : Int) = 0) = False := eq_false fun z => by
          have := List.length_pos_of_mem h2
          omega
        rw [h1]
        refine ⟨[.dead, .dead], ?_⟩
        walk_at "p*"
    obtain ⟨M2, fin⟩ := fin
    refine ⟨_, runP_rt fin (fz1_pure (pure_encO _)), btw_spec hp hq hl1 hl2 (fun l h1 h2 => low l h1 (by omega)) (cs := (foundB p q s (lastB p q s stop + 1)).filter (withinB stop)) (fun x => ?_) ?_⟩
    · rw [List.mem_filter, within_iff]
      unfold foundB
      by_cases hr : 0 < riseB p q
      · rw [if_pos hr, List.mem_map]
        constructor
        · rintro ⟨⟨l, h1, rfl⟩, h2⟩
          have := rngI_mem.mp h1
          exact ⟨hr, l, this.1, by omega, rfl, h2⟩
        · rintro ⟨_, l, h1, h2, rfl, h3⟩
          exact ⟨⟨l, rngI_mem.mpr ⟨h1, by omega⟩, rfl⟩, h3⟩
      · rw [if_neg hr]
        constructor
        · rintro ⟨h, _⟩
          cases h
        · rintro ⟨h, _⟩
          exact absurd h hr
    · exact minOf_spec
  · have ha := ahead _ fun _ _ => e
    rw [Nat.zero_add] at hm hle low
    refine ⟨some (s + (i : Int)), runP_rt (d := .int (s + ((0 + i : Nat) : Int))) (M := M1) ha ?_, by omega, hin _ (by omega) hle, hm, low⟩
    rw [Nat.zero_add]
    exact fz1_pure rfl
theorem rp_lim : ∀ {b : Int} {ts : List (Int × Int × Int)}, (∀ t ∈ ts, TierOk t) → Asc ts → ∀ p ∈ rp b ts, b ≤ p.base ∧ 0 ≤ p.start ∧ p.start ≤ 301 ∧ p.first ≤ 300
  | _, [], _, _, p, h => by cases h
  | b, [t], hk, _, p, h => by
    have ok := hk t (by simp)
    rw [rp, List.mem_singleton] at h
    subst h
    have := ok.f0
    have := ok.f1
    refine ⟨Int.le_refl _, ?_, ?_, ?_⟩ <;> dsimp only <;> omega
  | b, t :: t2 :: r, hk, ha, p, h => by
    have ok := hk t (by simp)
    have := ok.f0
    have := ok.f1
    rw [rp] at h
    rcases List.mem_cons.mp h with rfl | h
    · refine ⟨Int.le_refl _, ?_, ?_, ?_⟩ <;> dsimp only <;> omega
    · obtain ⟨h1, h2, h3, h4⟩ := rp_lim (fun x hx => hk x (List.mem_cons_of_mem _ hx)) ha.2 p h
      have : 0 ≤ t.2.2 * cdiv (t2.1 - t.1) t.2.1 := Int.mul_nonneg ok.p0 (cdiv_nn (by have := ok.u0; omega) (by have := ha.1; omega))
      exact ⟨by omega, h2, h3, h4⟩
theorem fa_lim {p : Pc} (h : PcOk p) (h0 : 0 ≤ p.base) (h1 : p.start ≤ 301) (h2 : p.first ≤ 300) {c l : Int} (hc : c ≤ 1000000) (e : fa p c = some l) : l ≤ 1000000000 := by
  unfold fa at e
  split at e
  · split at e
    · cases e
    · rename_i hz
      obtain ⟨rfl, _⟩ := stopOk_some e
      have hp : 0 < p.price := by have := h.p0; omega
      have g : cdiv (c - p.base) p.price ≤ 1000000 := (cdiv_le hp).mpr (by
        have : 1000000 * 1 ≤ 1000000 * p.price := Int.mul_le_mul_of_nonneg_left (by omega) (by decide)
        omega)
      have u0 := h.u0
      have u1 := h.u1
      have g2 : (cdiv (c - p.base) p.price - 1) * p.unit ≤ 1000000 * p.unit := Int.mul_le_mul_of_nonneg_right (by omega) (by omega)
      omega
  · obtain ⟨rfl, _⟩ := stopOk_some e
    omega
theorem cut_lim {c : Int} (hc : c ≤ 1000000) : ∀ {ps : List Pc}, (∀ p ∈ ps, PcOk p ∧ 0 ≤ p.base ∧ p.start ≤ 301 ∧ p.first ≤ 300) → ∀ p ∈ cut c ps, p.start ≤ 1000000000
  | [], _, p, h => by cases h
  | p :: r, hk, x, h => by
    obtain ⟨ok, h0, h1, h2⟩ := hk p (by simp)
    unfold cut at h
    cases hf : fa p c with
    | none =>
      rw [hf] at h
      rcases List.mem_cons.mp h with rfl | h
      · omega
      · exact cut_lim hc (fun y hy => hk y (List.mem_cons_of_mem _ hy)) x h
    | some l =>
      have hl := fa_lim ok h0 h1 h2 hc hf
      rw [hf] at h
      by_cases g : p.start < l
      · simp only [if_pos g, List.cons_append, List.nil_append, List.mem_cons, List.not_mem_nil, or_false] at h
        rcases h with rfl | rfl
        · dsimp only
          omega
        · exact hl
      · simp only [if_neg g, List.nil_append, List.mem_cons, List.not_mem_nil, or_false] at h
        rw [h]
        exact hl
theorem pcs_lim {b : Bk} (h : BkOk b) : ∀ p ∈ pcs b, 0 ≤ p.start ∧ p.start ≤ 1000000000 := by
  intro p hp
  refine ⟨ch_start (pcs_ch h) p hp, ?_⟩
  have raw : ∀ p ∈ rawPcs b, PcOk p ∧ 0 ≤ p.base ∧ p.start ≤ 301 ∧ p.first ≤ 300 := by
    intro x hx
    refine ⟨rawPcs_ok b h.tk x hx, ?_⟩
    rcases List.mem_cons.mp hx with rfl | hx
    · exact ⟨h.b0, by show (0 : Int) ≤ 301; decide, by show (0 : Int) ≤ 300; decide⟩
    · obtain ⟨h1, h2, h3, h4⟩ := rp_lim h.tk h.as x hx
      exact ⟨Int.le_trans h.b0 h1, h3, h4⟩
  unfold pcs at hp
  cases hc : b.cap with
  | none =>
    rw [hc] at hp
    have := (raw p hp).2.2.1
    omega
  | some c =>
    rw [hc] at hp
    exact cut_lim (h.cp c hc).2 raw p hp
/-! ### the lengths where pieces begin -/
def startsB (b1 b2 : Bk) : List Int := setI ((pcs b1 ++ pcs b2).map (·.start))
theorem atP_same {ps : List Pc} {s l : Int} (hl : s ≤ l) (h : ∀ p ∈ ps, p.start ≤ s ∨ l < p.start) : atP ps l = atP ps s := by
  unfold atP
  congr 1
  apply List.filter_congr
  intro p hp
  rcases h p hp with g | g
  · rw [decide_eq_true (show p.start ≤ l by omega), decide_eq_true g]
  · rw [decide_eq_false (show ¬ p.start ≤ l by omega), decide_eq_false (show ¬ p.start ≤ s by omega)]
theorem pw_get {S : List Int} (h : S.Pairwise (· < ·)) {i j : Nat} {x y : Int} (hi : S[i]? = some x) (hj : S[j]? = some y) (hij : i < j) : x < y := by
  obtain ⟨h1, rfl⟩ := List.getElem?_eq_some_iff.mp hi
  obtain ⟨h2, rfl⟩ := List.getElem?_eq_some_iff.mp hj
  exact List.pairwise_iff_getElem.mp h i j h1 h2 hij
def stopB (S : List Int) (k : Nat) : Option Int := (S[k + 1]?).map (· - 1)
def diffF (b1 b2 : Bk) (l : Int) : Int := fareL b1 l - fareL b2 l
/-- no start lies within a stretch -/
theorem stretch {b1 b2 : Bk} {k : Nat} {s l : Int} (hk : (startsB b1 b2)[k]? = some s) (hl : s ≤ l) (hw : within (stopB (startsB b1 b2) k) l) : ∀ p ∈ pcs b1 ++ pcs b2, p.start ≤ s ∨ l < p.start := by
  intro p hp
  have hS := setI_lt ((pcs b1 ++ pcs b2).map (·.start))
  have hm : p.start ∈ startsB b1 b2 := setI_mem.mpr (List.mem_map.mpr ⟨p, hp, rfl⟩)
  obtain ⟨j, hj⟩ := List.getElem?_of_mem hm
  by_cases g : j ≤ k
  · left
    rcases Nat.lt_or_eq_of_le g with g | rfl
    · exact Int.le_of_lt (pw_get hS hj hk g)
    · rw [hj] at hk
      cases hk
      exact Int.le_refl _
  · right
    cases hn : (startsB b1 b2)[k + 1]? with
    | none =>
      have h1 := List.getElem?_eq_none_iff.mp hn
      have h2 := (List.getElem?_eq_some_iff.mp hj).1
      omega
    | some t =>
      have h1 := hw (t - 1) (by unfold stopB; rw [hn]; rfl)
      by_cases e : j = k + 1
      · rw [e, hn] at hj
        cases hj
        omega
      · have := pw_get hS hn hj (by omega)
        omega
theorem piece_on {b b1 b2 : Bk} (h : BkOk b) (hb : ∀ p ∈ pcs b, p ∈ pcs b1 ++ pcs b2) {k : Nat} {s : Int} (hk : (startsB b1 b2)[k]? = some s) (h0 : 0 ≤ s) : ∃ p, f_piece_at [.lst ((pcs b).map encPc), .int s] = some (encPc p) ∧ PcOk p ∧ ∀ l, s ≤ l → within (stopB (startsB b1 b2) k) l → p.fare l = fareL b l := by
  obtain ⟨p, hp, hf⟩ := ch_at (pcs_ch h) h0
  refine ⟨p, run_at (by have := pcs_len h; omega) hp, pcs_ok h p (List.mem_filter.mp (List.mem_of_getLast? hp)).1, fun l hl hw => ?_⟩
  obtain ⟨p', hp', hf'⟩ := ch_at (l := l) (pcs_ch h) (by omega)
  have e := atP_same hl fun x hx => stretch hk hl hw x (hb x hx)
  rw [e, hp] at hp'
  cases hp'
  exact hf'
theorem starts_len {b1 b2 : Bk} (h1 : BkOk b1) (h2 : BkOk b2) : ((pcs b1 ++ pcs b2).map (·.start)).length ≤ 14 := by
  have := pcs_len h1
  have := pcs_len h2
  simp
  omega
theorem insU_len {x : Int} : ∀ (l : List Int), (insU x l).length ≤ l.length + 1
  | [] => by simp [insU]
  | y :: r => by
    have := insU_len (x := x) r
    unfold insU
    split
    · simp
    · split
      · simp
      · simp
        omega
theorem setI_len : ∀ (l : List Int), (setI l).length ≤ l.length
  | [] => by simp [setI]
  | x :: r => by
    have := setI_len r
    have := insU_len (x := x) (setI r)
    unfold setI
    simp
    omega
theorem starts_zero {b1 b2 : Bk} (h1 : BkOk b1) (h2 : BkOk b2) : ∃ s, (startsB b1 b2)[0]? = some 0 ∧ s = (0 : Int) := by
  have hc := pcs_ch h1
  have h0 : ∃ p ∈ pcs b1, p.start = 0 := by
    cases hp : pcs b1 with
    | nil => rw [hp] at hc; exact hc.elim
    | cons p r =>
      refine ⟨p, by simp, ?_⟩
      rw [hp] at hc
      cases r with
      | nil => exact hc.1
      | cons q r => exact hc.1
  obtain ⟨p, hp, hs⟩ := h0
  have hm : (0 : Int) ∈ startsB b1 b2 := setI_mem.mpr (List.mem_map.mpr ⟨p, List.mem_append_left _ hp, hs⟩)
  obtain ⟨j, hj⟩ := List.getElem?_of_mem hm
  refine ⟨0, ?_, rfl⟩
  cases j with
  | zero => exact hj
  | succ j =>
    have hlen := (List.getElem?_eq_some_iff.mp hj).1
    have hf : (startsB b1 b2)[0]? = some ((startsB b1 b2)[0]'(by omega)) := List.getElem?_eq_getElem _
    have hlt := pw_get (setI_lt _) hf hj (Nat.succ_pos j)
    have hge : 0 ≤ (startsB b1 b2)[0]'(by omega) := by
      have hm0 := List.mem_of_getElem? hf
      obtain ⟨x, hx, hxs⟩ := List.mem_map.mp (setI_mem.mp hm0)
      rw [← hxs]
      rcases List.mem_append.mp hx with g | g
      · exact (pcs_lim h1 x g).1
      · exact (pcs_lim h2 x g).1
    omega
def DearP (b1 b2 : Bk) (k : Nat) (ρ : Rho) (M : Sto) : Prop := ∃ (a5 a6 a7 a8 : Option D), ρ = [some (encB b1), some (encB b2), some (.lst ((pcs b1).map encPc)), some (.lst ((pcs b2).map encPc)), some (.lst ((startsB b1 b2).map .int)), a5, a6, a7, a8, none] ∧ M = [] ∧ ∀ l, 0 ≤ l → (∀ s, (startsB b1 b2)[k]? = some s → l < s) → diffF b1 b2 l ≤ 0
def DearR (b1 b2 : Bk) (_ : Nat) (d : D) (_ : Sto) : Prop := ∃ x, d = .int x ∧ LeastIn (diffF b1 b2) 0 none (some x)
theorem dear_loop {b1 b2 : Bk} (h1 : BkOk b1) (h2 : BkOk b2) : (∃ ρ1 M1, forGo (gT 2 (gsCons (gN 5) (gsCons (gN 6) (gsNil)))) (sSeq (sAsg (eC .non) (gN 7)) (sSeq (sIf (bTest (eBin oLt (eBin oAdd (eVar 5) (eC (.int 1))) (eCa cLen (aCons (eVar 4) (aNil))))) (sAsg (eBin oSub (eBin oIx (eVar 4) (eBin oAdd (eVar 5) (eC (.int 1)))) (eC (.int 1))) (gN 7)) (sNext)) (sSeq (sAsg (eCall f_first_between (aCons (eCall f_piece_at (aCons (eVar 2) (aCons (eVar 6) (aNil)))) (aCons (eCall f_piece_at (aCons (eVar 3) (aCons (eVar 6) (aNil)))) (aCons (eVar 6) (aCons (eVar 7) (aNil)))))) (gN 8)) (sIf (bTest (eBin oNotN (eVar 8) (eC .non))) (sRet (eVar 8)) (sNext))))) none (enumD ((startsB b1 b2).map .int)) [some (encB b1), some (encB b2), some (.lst ((pcs b1).map encPc)), some (.lst ((pcs b2).map encPc)), some (.lst ((startsB b1 b2).map .int)), none, none, none, none, none] [] = some (.nx ρ1, M1) ∧ DearP b1 b2 (0 + (enumD ((startsB b1 b2).map .int)).length) ρ1 M1) ∨
    ∃ i e M1, i < (enumD ((startsB b1 b2).map .int)).length ∧ forGo (gT 2 (gsCons (gN 5) (gsCons (gN 6) (gsNil)))) (sSeq (sAsg (eC .non) (gN 7)) (sSeq (sIf (bTest (eBin oLt (eBin oAdd (eVar 5) (eC (.int 1))) (eCa cLen (aCons (eVar 4) (aNil))))) (sAsg (eBin oSub (eBin oIx (eVar 4) (eBin oAdd (eVar 5) (eC (.int 1)))) (eC (.int 1))) (gN 7)) (sNext)) (sSeq (sAsg (eCall f_first_between (aCons (eCall f_piece_at (aCons (eVar 2) (aCons (eVar 6) (aNil)))) (aCons (eCall f_piece_at (aCons (eVar 3) (aCons (eVar 6) (aNil)))) (aCons (eVar 6) (aCons (eVar 7) (aNil)))))) (gN 8)) (sIf (bTest (eBin oNotN (eVar 8) (eC .non))) (sRet (eVar 8)) (sNext))))) none (enumD ((startsB b1 b2).map .int)) [some (encB b1), some (encB b2), some (.lst ((pcs b1).map encPc)), some (.lst ((pcs b2).map encPc)), some (.lst ((startsB b1 b2).map .int)), none, none, none, none, none] [] = some (.rt e, M1) ∧ DearR b1 b2 (0 + i) e M1 := by
  refine forGo_find (DearP b1 b2) (DearR b1 b2) _ 0 _ _ ?_ ⟨none, none, none, none, rfl, rfl, fun l hl hs => ?_⟩
  · rintro i d ρ M hd ⟨a5, a6, a7, a8, rfl, rfl, low⟩
    rw [Nat.zero_add] at low ⊢
    obtain ⟨x, hx, rfl⟩ := enum_get hd
    rw [List.getElem?_map] at hx
    obtain ⟨s, hs, rfl⟩ := map_eq hx
    have hmem : s ∈ startsB b1 b2 := List.mem_of_getElem? hs
    obtain ⟨p0, hp0, hps⟩ := List.mem_map.mp (setI_mem.mp hmem)
    have hsl : 0 ≤ s ∧ s ≤ 1000000000 := by
      rw [← hps]
      rcases List.mem_append.mp hp0 with g | g
      · exact pcs_lim h1 p0 g
      · exact pcs_lim h2 p0 g
    obtain ⟨p, hp1, hp2, hp3⟩ := piece_on h1 (fun p hp => List.mem_append_left _ hp) hs hsl.1
    obtain ⟨q, hq1, hq2, hq3⟩ := piece_on h2 (fun p hp => List.mem_append_right _ hp) hs hsl.1
    have hS := setI_lt ((pcs b1 ++ pcs b2).map (·.start))
    obtain ⟨r, hr1, hr2⟩ := run_btw hp2 hq2 s (stopB (startsB b1 b2) i) hsl.1 hsl.2 (fun e he => by
      unfold stopB at he
      obtain ⟨t, ht, rfl⟩ := map_eq he
      have := pw_get hS hs ht (Nat.lt_succ_self i)
      omega)
    have eqG : ∀ l, s ≤ l → within (stopB (startsB b1 b2) i) l → more p q l = diffF b1 b2 l := fun l hl hw => by
      unfold more diffF
      rw [hp3 l hl hw, hq3 l hl hw]
    have pp := pure_encPc p
    have pq := pure_encPc q
    have p1 := pure_pcs (pcs b1)
    have p2 := pure_pcs (pcs b2)
    have hi := (List.getElem?_eq_some_iff.mp hs).1
    -- the turn itself
    have turnE : ∀ st, stopB (startsB b1 b2) i = st → f_first_between [encPc p, encPc q, .int s, encO st] = some (encO r) →
        turn (gT 2 (gsCons (gN 5) (gsCons (gN 6) (gsNil)))) (sSeq (sAsg (eC .non) (gN 7)) (sSeq (sIf (bTest (eBin oLt (eBin oAdd (eVar 5) (eC (.int 1))) (eCa cLen (aCons (eVar 4) (aNil))))) (sAsg (eBin oSub (eBin oIx (eVar 4) (eBin oAdd (eVar 5) (eC (.int 1)))) (eC (.int 1))) (gN 7)) (sNext)) (sSeq (sAsg (eCall f_first_between (aCons (eCall f_piece_at (aCons (eVar 2) (aCons (eVar 6) (aNil)))) (aCons (eCall f_piece_at (aCons (eVar 3) (aCons (eVar 6) (aNil)))) (aCons (eVar 6) (aCons (eVar 7) (aNil)))))) (gN 8)) (sIf (bTest (eBin oNotN (eVar 8) (eC .non))) (sRet (eVar 8)) (sNext))))) (.tup [.int (i : Nat), .int s]) [some (encB b1), some (encB b2), some (.lst ((pcs b1).map encPc)), some (.lst ((pcs b2).map encPc)), some (.lst ((startsB b1 b2).map .int)), a5, a6, a7, a8, none] [] =
          match r with
          | none => some (.nx [some (encB b1), some (encB b2), some (.lst ((pcs b1).map encPc)), some (.lst ((pcs b2).map encPc)), some (.lst ((startsB b1 b2).map .int)), some (.int (i : Nat)), some (.int s), some (encO st), some .non, none], [])
          | some x => some (.rt (.int x), []) := by
      intro st hst hr1
      cases hn : (startsB b1 b2)[i + 1]? with
      | none =>
        have hg := List.getElem?_eq_none_iff.mp hn
        have hc : ((i : Int) + 1 < ((startsB b1 b2).length : Int)) = False := eq_false (by omega)
        have e : st = none := by rw [← hst]; unfold stopB; rw [hn]; rfl
        subst e
        rw [encO_n] at hr1
        cases r with
        | none =>
          rw [encO_n] at hr1
          walk_at "p*"
        | some x =>
          rw [encO_s] at hr1
          walk_at "p*"
      | some t =>
        have hg := (List.getElem?_eq_some_iff.mp hn).1
        have hc : ((i : Int) + 1 < ((startsB b1 b2).length : Int)) = True := eq_true (by omega)
        have e : st = some (t - 1) := by rw [← hst]; unfold stopB; rw [hn]; rfl
        subst e
        have hix : atI ((startsB b1 b2).map D.int) ((i : Int) + 1) = some (.int t) := atI_map hn (by omega)
        rw [encO_s] at hr1
        cases r with
        | none =>
          rw [encO_n] at hr1
          walk_at "p*"
        | some x =>
          rw [encO_s] at hr1
          walk_at "p*"
    have ht := turnE _ rfl hr1
    cases r with
    | some x =>
      obtain ⟨g1, g2, g3, g4⟩ := hr2
      refine .inr ⟨_, _, ht, x, rfl, by omega, fun e he => (nomatch he), by rw [← eqG x g1 g2]; exact g3, fun l hl hlt => ?_⟩
      by_cases hls : l < s
      · exact low l hl fun s' hs' => by
          rw [hs] at hs'
          cases hs'
          exact hls
      · rw [← eqG l (by omega) fun e he => by have := g2 e he; omega]
        exact g4 l (by omega) hlt
    | none =>
      refine .inl ⟨_, _, ht, _, _, _, _, rfl, rfl, fun l hl hn => ?_⟩
      by_cases hls : l < s
      · exact low l hl fun s' hs' => by
          rw [hs] at hs'
          cases hs'
          exact hls
      · have hw : within (stopB (startsB b1 b2) i) l := by
          intro e he
          unfold stopB at he
          obtain ⟨t, ht, rfl⟩ := map_eq he
          have := hn t ht
          omega
        rw [← eqG l (by omega) hw]
        exact hr2 l (by omega) hw
  · obtain ⟨_, h0, _⟩ := starts_zero h1 h2
    have := hs 0 h0
    omega
theorem run_dearer {b1 b2 : Bk} (h1 : BkOk b1) (h2 : BkOk b2) : ∃ r, f_dearer [encB b1, encB b2] = some (encO r) ∧ LeastIn (diffF b1 b2) 0 none r := by
  have r1 := run_pieces b1 h1.tk h1.ln
  have r2 := run_pieces b2 h2.tk h2.ln
  have q1 := pure_encB b1
  have q2 := pure_encB b2
  have ls := starts_len h1 h2
  have l0 : ((pcs b1 ++ pcs b2).map encPc).length ≤ 1000000 := by
    rw [List.length_map] at ls ⊢
    omega
  rw [List.map_append] at l0
  have l1 : ((pcs b1).map encPc ++ (pcs b2).map encPc).length ≤ 1000000 := l0
  rw [List.length_append, List.length_map, List.length_map] at l0
  have l2 : (((pcs b1 ++ pcs b2).map (·.start)).length < 64) = True := eq_true (by omega)
  have lc : lcGo (gN 9) (bYes) (eFld 0 "start" (eVar 9)) none [some (encB b1), some (encB b2), some (.lst ((pcs b1).map encPc)), some (.lst ((pcs b2).map encPc)), none, none, none, none, none, none] ((pcs b1).map encPc ++ (pcs b2).map encPc) [] [] = some (((pcs b1 ++ pcs b2).map (·.start)).map .int, []) := by
    rw [← List.map_append, List.map_map]
    exact lcGo_map encPc (fun p => .int p.start) _ _ fun p _ => ⟨_, rfl, by walk_at "p*"⟩
  have hset : setI ((pcs b1 ++ pcs b2).map (·.start)) = startsB b1 b2 := rfl
  have ahead : ∀ R, forGo (gT 2 (gsCons (gN 5) (gsCons (gN 6) (gsNil)))) (sSeq (sAsg (eC .non) (gN 7)) (sSeq (sIf (bTest (eBin oLt (eBin oAdd (eVar 5) (eC (.int 1))) (eCa cLen (aCons (eVar 4) (aNil))))) (sAsg (eBin oSub (eBin oIx (eVar 4) (eBin oAdd (eVar 5) (eC (.int 1)))) (eC (.int 1))) (gN 7)) (sNext)) (sSeq (sAsg (eCall f_first_between (aCons (eCall f_piece_at (aCons (eVar 2) (aCons (eVar 6) (aNil)))) (aCons (eCall f_piece_at (aCons (eVar 3) (aCons (eVar 6) (aNil)))) (aCons (eVar 6) (aCons (eVar 7) (aNil)))))) (gN 8)) (sIf (bTest (eBin oNotN (eVar 8) (eC .non))) (sRet (eVar 8)) (sNext))))) none (enumD ((startsB b1 b2).map .int)) [some (encB b1), some (encB b2), some (.lst ((pcs b1).map encPc)), some (.lst ((pcs b2).map encPc)), some (.lst ((startsB b1 b2).map .int)), none, none, none, none, none] [] = R →
      B_dearer [some (encB b1), some (encB b2), none, none, none, none, none, none, none, none] [] = seq1 (sRet (eC .non)) R := by
    intro R hR
    generalize hms : ((pcs b1 ++ pcs b2).map (·.start)) = ms at lc l2 hset
    unfold B_dearer
    walk_at "p*"
  rcases dear_loop h1 h2 with ⟨ρ1, M1, e, a5, a6, a7, a8, rfl, rfl, low⟩ | ⟨i, d, M1, hi, e, x, rfl, hx⟩
  · refine ⟨none, runP_rt (d := .non) (M := []) (ahead _ e) (fz1_pure rfl), fun l hl _ => low l hl fun s hs => ?_⟩
    have := (List.getElem?_eq_some_iff.mp hs).1
    simp [enumD] at this
  · exact ⟨some x, runP_rt (d := .int x) (M := M1) (ahead _ e) (fz1_pure rfl), hx⟩
def LeastZ (P : Int → Prop) : Option Int → Prop
  | none => ∀ l, 0 ≤ l → ¬ P l
  | some x => 0 ≤ x ∧ P x ∧ ∀ l, 0 ≤ l → l < x → ¬ P l
theorem leastZ_one {P : Int → Prop} : ∀ {r s : Option Int}, LeastZ P r → LeastZ P s → r = s
  | none, none, _, _ => rfl
  | none, some x, h, ⟨h1, h2, _⟩ => absurd h2 (h x h1)
  | some x, none, ⟨h1, h2, _⟩, h => absurd h2 (h x h1)
  | some x, some y, ⟨h1, h2, h3⟩, ⟨g1, g2, g3⟩ => by
    by_cases a : x < y
    · exact absurd h2 (g3 x h1 a)
    · by_cases b : y < x
      · exact absurd g2 (h3 y g1 b)
      · rw [show x = y by omega]
def Dearer (b1 b2 : Bk) (l : Int) : Prop := fareL b2 l < fareL b1 l
def Unlike (b1 b2 : Bk) (l : Int) : Prop := fareL b1 l ≠ fareL b2 l
theorem run_dearerZ {b1 b2 : Bk} (h1 : BkOk b1) (h2 : BkOk b2) : ∃ r, f_dearer [encB b1, encB b2] = some (encO r) ∧ LeastZ (Dearer b1 b2) r := by
  obtain ⟨r, e, h⟩ := run_dearer h1 h2
  refine ⟨r, e, ?_⟩
  unfold Dearer
  cases r with
  | none => exact fun l hl => by have := h l hl (fun e he => (nomatch he)); unfold diffF at this; omega
  | some x =>
    obtain ⟨g1, _, g3, g4⟩ := h
    unfold diffF at g3 g4
    exact ⟨g1, by omega, fun l hl hx => by have := g4 l hl hx; omega⟩
theorem run_check2 {a b : Bk} (ha : isBook a = true) (hb : isBook b = true) : f_check_books [.lst [encB a, encB b]] = some .non := by
  have r1 := run_book a
  have r2 := run_book b
  have p1 := pure_encB a
  have p2 := pure_encB b
  refine runP_nx (ρ := [some (.lst [encB a, encB b]), some (.int 1), some (encB b)]) (M := []) ?_
  unfold B_check_books
  walk_at "y*"
theorem run_fdearer {b1 b2 : Bk} (h1 : BkOk b1) (h2 : BkOk b2) : ∃ r, f_first_dearer [encB b1, encB b2] = some (encO r) ∧ LeastZ (Dearer b1 b2) r := by
  obtain ⟨r, e, h⟩ := run_dearerZ h1 h2
  have hc := run_check2 (isBook_iff.mpr h1) (isBook_iff.mpr h2)
  have p1 := pure_encB b1
  have p2 := pure_encB b2
  refine ⟨r, runP_rt (d := encO r) (M := []) ?_ (fz1_pure (pure_encO r)), h⟩
  unfold B_first_dearer
  walk_at "y*"
def optL : Option Int → List Int
  | none => []
  | some x => [x]
def keepD : D → Bool
  | .non => false
  | _ => true
theorem run_funlike {b1 b2 : Bk} (h1 : BkOk b1) (h2 : BkOk b2) : ∃ r, f_first_unlike [encB b1, encB b2] = some (encO r) ∧ LeastZ (Unlike b1 b2) r := by
  obtain ⟨r, e, h⟩ := run_dearerZ h1 h2
  obtain ⟨s, e', h'⟩ := run_dearerZ h2 h1
  have hc := run_check2 (isBook_iff.mpr h1) (isBook_iff.mpr h2)
  have p1 := pure_encB b1
  have p2 := pure_encB b2
  have lc : lcGo (gN 3) (bTest (eBin oNotN (eVar 3) (eC .non))) (eVar 3) none [some (encB b1), some (encB b2), none, none] [encO r, encO s] [] [] = some ((optL r ++ optL s).map .int, []) := by
    have h0 : ∀ c : Int, oNotN [] (.int c) .non = some (.bl true) := fun _ => rfl
    cases r <;> cases s <;> (unfold encO optL; walk_at "y*"; try rfl)
  refine ⟨minOf (optL r ++ optL s), runP_rt (d := encO (minOf (optL r ++ optL s))) (M := []) ?_ (fz1_pure (pure_encO _)), ?_⟩
  · unfold B_first_unlike
    rcases minOf_spec (ns := optL r ++ optL s) with ⟨g1, g2⟩ | ⟨m, g1, g2, g3⟩
    · rw [g2]
      rw [g1] at lc
      walk_at "y*"
      rfl
    · have hne : (((optL r ++ optL s).length : Int) = 0) = False := eq_false fun z => by
        have := List.length_pos_of_mem g2
        omega
      generalize optL r ++ optL s = ns at lc g1 hne ⊢
      rw [g1]
      walk_at "y*"
      rfl
  · unfold Unlike
    unfold Dearer at h h'
    rcases minOf_spec (ns := optL r ++ optL s) with ⟨g1, g2⟩ | ⟨m, g1, g2, g3⟩
    · rw [g2]
      cases r with
      | some x => cases g1
      | none =>
        cases s with
        | some x => cases g1
        | none => exact fun l hl => by have := h l hl; have := h' l hl; omega
    · rw [g1]
      cases r with
      | none =>
        cases s with
        | none => cases g2
        | some y =>
          obtain ⟨k1, k2, k3⟩ := h'
          have : m = y := by simpa [optL] using g2
          subst this
          exact ⟨k1, by omega, fun l hl hx => by have := h l hl; have := k3 l hl hx; omega⟩
      | some x =>
        obtain ⟨j1, j2, j3⟩ := h
        cases s with
        | none =>
          have : m = x := by simpa [optL] using g2
          subst this
          exact ⟨j1, by omega, fun l hl hx => by have := h' l hl; have := j3 l hl hx; omega⟩
        | some y =>
          obtain ⟨k1, k2, k3⟩ := h'
          have a1 := g3 x (by simp [optL])
          have a2 := g3 y (by simp [optL])
          have : m = x ∨ m = y := by simpa [optL] using g2
          rcases this with rfl | rfl
          · exact ⟨j1, by omega, fun l hl hx => by have := j3 l hl hx; have := k3 l hl (by omega); omega⟩
          · exact ⟨k1, by omega, fun l hl hx => by have := j3 l hl (by omega); have := k3 l hl hx; omega⟩
def encI (ns : List Int) : D := .lst (ns.map .int)
theorem pure_encI (ns : List Int) : pureD (encI ns) = true := by
  simp only [encI, pureD]
  exact pureL_map fun _ => rfl
theorem draws_inner (ns : List Int) (k : Nat) (x : Int) (L : Int) (ds : List Int) (hl : ds.length ≤ 60 * k) (hk : k ≤ 63) (a4 a5 : Option D) : ∃ ρ1 M1, forGo (gN 4) (sIf (bTest (eBin oGt (eVar 3) (eC (.int 0)))) (sSeq (sDrop (eApp (eVar 1) (eBin oMod (eCa cInt (aCons (eVar 3) (aNil))) (eC (.int 65536))))) (sAsg (eBin oFdiv (eVar 3) (eC (.int 65536))) (gN 3))) (sNext)) none (rngD 0 60) [some (.rls (ns.map .int)), some (.loc 0), some (.int L), some (.int x), a4, a5] [.lst (ds.map .int)] = some (.nx ρ1, M1) ∧
      ∃ (x : Int) (ds : List Int) (a4 a5 : Option D), ρ1 = [some (.rls (ns.map .int)), some (.loc 0), some (.int L), some (.int x), a4, a5] ∧ M1 = [.lst (ds.map .int)] ∧ ds.length ≤ 60 * k + (0 + (rngD 0 60).length) := by
  refine forGo_inv (fun j ρ M => ∃ (x : Int) (ds : List Int) (a4 a5 : Option D), ρ = [some (.rls (ns.map .int)), some (.loc 0), some (.int L), some (.int x), a4, a5] ∧ M = [.lst (ds.map .int)] ∧ ds.length ≤ 60 * k + j) _ 0 _ _ ?_ ⟨x, ds, a4, a5, rfl, rfl, by omega⟩
  rintro j d ρ M hd ⟨x, ds, a4, a5, rfl, rfl, hl⟩
  have hj := (List.getElem?_eq_some_iff.mp hd).1
  rw [rngD_len] at hj
  obtain ⟨rfl, _⟩ := rng_get hd
  have hz : (ds.length < 1000000) = True := eq_true (by omega)
  by_cases hx : 0 < x
  · refine ⟨_, _, ?_, x.fdiv 65536, ds ++ [x.fmod 65536], some (.int (0 + j)), a5, rfl, rfl, by simp; omega⟩
    rw [List.map_append]
    walk_at "y*"
  · refine ⟨_, _, ?_, x, ds, some (.int (0 + j)), a5, rfl, rfl, by omega⟩
    walk_at "y*"
theorem turn_eq {G : EG} {b : ES} {d : D} {ρ ρ1 : Rho} {M M1 : Sto} (h : G d ρ M = some (ρ1, M1)) : turn G b d ρ M = b ρ1 M1 := by
  unfold turn
  rw [h]
  rfl
theorem if_no {c : ET} {F S : ES} {ρ : Rho} {M M1 : Sto} (h : c ρ M = some (false, M1)) : sIf c F S ρ M = S ρ M1 := by
  unfold sIf
  rw [h]
  rfl
theorem if_yes {c : ET} {F S : ES} {ρ : Rho} {M M1 : Sto} (h : c ρ M = some (true, M1)) : sIf c F S ρ M = F ρ M1 := by
  unfold sIf
  rw [h]
  rfl
theorem small_a (a0 a1 a4 a5 : Option D) (k x : Int) (M : Sto) : sAsg (eBin oMod (eCa cInt (aCons (eBin oAdd (eBin oMul (eVar 3) (eC (.int 48271))) (eBin oMul (eBin oAdd (eVar 2) (eC (.int 1))) (eC (.int 69621)))) (aNil))) (eC (.int 2147483647))) (gN 5) [a0,a1,some (.int k), some (.int x), a4, a5] M = some (.nx [a0,a1,some (.int k), some (.int x), a4, some (.int ((x * 48271 + (k + 1) * 69621).fmod 2147483647))], M) := by
  have m1 : ∀ x : Int, mulOk x 48271 = true := fun x => mulOk_r (by decide) (by decide)
  have m2 : ∀ x : Int, mulOk x 69621 = true := fun x => mulOk_r (by decide) (by decide)
  walk_at "y*"
theorem small_b (a0 a1 a4 : Option D) (k x y : Int) (M : Sto) : sAsg (eBin oMod (eCa cInt (aCons (eBin oAdd (eBin oAdd (eBin oMul (eVar 5) (eC (.int 16807))) (eBin oMul (eC (.int 11)) (eVar 2))) (eC (.int 5))) (aNil))) (eC (.int 2147483629))) (gN 5) [a0,a1,some (.int k), some (.int x), a4, some (.int y)] M = some (.nx [a0,a1,some (.int k), some (.int x), a4, some (.int ((y * 16807 + 11 * k + 5).fmod 2147483629))], M) := by
  have m3 : ∀ x : Int, mulOk x 16807 = true := fun x => mulOk_r (by decide) (by decide)
  have m4 : ∀ x : Int, mulOk 11 x = true := fun x => mulOk_l (by decide) (by decide)
  walk_at "y*"
theorem small_c (a0 a4 : Option D) (ds : List Int) (k x y : Int) (hz : ds.length < 999999) : sSeq (sDrop (eApp (eVar 1) (eBin oMod (eCa cInt (aCons (eVar 5) (aNil))) (eC (.int 65536)))))
  (sDrop (eApp (eVar 1) (eBin oMod (eCa cInt (aCons (eBin oFdiv (eVar 5) (eC (.int 65536))) (aNil))) (eC (.int 32768))))) [a0, some (.loc 0),some (.int k), some (.int x), a4, some (.int y)] [.lst (ds.map .int)] = some (.nx [a0, some (.loc 0),some (.int k), some (.int x), a4, some (.int y)], [.lst ((ds ++ [y.fmod 65536] ++ [(y.fdiv 65536).fmod 32768]).map .int)]) := by
  have h1 : (ds.length < 1000000) = True := eq_true (by omega)
  have h2 : (ds.length + 1 < 1000000) = True := eq_true (by omega)
  rw [List.map_append, List.map_append]
  walk_at "y*"
theorem draws_big (ns ds : List Int) (k : Nat) (x : Int) (a2 a3 a4 a5 : Option D) (hl : ds.length ≤ 60 * (0 + k)) (hk : k < 63) (hx : ns[k]? = some x) (hb : 1000000000000000000 ≤ if x < 0 then -x else x) : (∃ ρ1 M1, turn (gN 2) (sSeq (sAsg (eCa cAbs (aCons (eBin oIx (eVar 0) (eVar 2)) (aNil))) (gN 3)) (sIf (bTest (eBin oGe (eVar 3) (eBin oPow (eC (.int 10)) (eC (.int 18))))) (sFor (iR1 (aCons (eC (.int 60)) (aNil))) (gN 4) (sIf (bTest (eBin oGt (eVar 3) (eC (.int 0)))) (sSeq (sDrop (eApp (eVar 1) (eBin oMod (eCa cInt (aCons (eVar 3) (aNil))) (eC (.int 65536))))) (sAsg (eBin oFdiv (eVar 3) (eC (.int 65536))) (gN 3))) (sNext))) (sSeq (sAsg (eBin oMod (eCa cInt (aCons (eBin oAdd (eBin oMul (eVar 3) (eC (.int 48271))) (eBin oMul (eBin oAdd (eVar 2) (eC (.int 1))) (eC (.int 69621)))) (aNil))) (eC (.int 2147483647))) (gN 5)) (sSeq (sAsg (eBin oMod (eCa cInt (aCons (eBin oAdd (eBin oAdd (eBin oMul (eVar 5) (eC (.int 16807))) (eBin oMul (eC (.int 11)) (eVar 2))) (eC (.int 5))) (aNil))) (eC (.int 2147483629))) (gN 5)) (sSeq (sDrop (eApp (eVar 1) (eBin oMod (eCa cInt (aCons (eVar 5) (aNil))) (eC (.int 65536))))) (sDrop (eApp (eVar 1) (eBin oMod (eCa cInt (aCons (eBin oFdiv (eVar 5) (eC (.int 65536))) (aNil))) (eC (.int 32768)))))))))) (.int (0 + (k : Int))) [some (.rls (ns.map .int)), some (.loc 0), a2, a3, a4, a5] [.lst (ds.map .int)] = some (.nx ρ1, M1) ∧ ∃ (ds : List Int) (a2 a3 a4 a5 : Option D), ρ1 = [some (.rls (ns.map .int)), some (.loc 0), a2, a3, a4, a5] ∧ M1 = [.lst (ds.map .int)] ∧ ds.length ≤ 60 * (0 + k + 1)) := by
  have h1 : atI (ns.map D.int) (0 + (k : Int)) = some (D.int x) := atI_map hx (by omega)
  have inner := draws_inner ns
  obtain ⟨ρ1, M1, e, y, ds', b4, b5, rfl, rfl, hl'⟩ := inner (0 + k) (if x < 0 then -x else x) (0 + (k : Int)) ds hl (by omega) a4 a5
  refine ⟨_, _, ?_, ds', some (.int (0 + k)), some (.int y), b4, b5, rfl, rfl, by rw [rngD_len] at hl'; omega⟩
  walk_at "y*"
theorem draws_small (ns ds : List Int) (k : Nat) (x : Int) (a2 a3 a4 a5 : Option D) (hl : ds.length ≤ 60 * (0 + k)) (hk : k < 63) (hx : ns[k]? = some x) (hb : ¬ 1000000000000000000 ≤ if x < 0 then -x else x) : (∃ ρ1 M1, turn (gN 2) (sSeq (sAsg (eCa cAbs (aCons (eBin oIx (eVar 0) (eVar 2)) (aNil))) (gN 3)) (sIf (bTest (eBin oGe (eVar 3) (eBin oPow (eC (.int 10)) (eC (.int 18))))) (sFor (iR1 (aCons (eC (.int 60)) (aNil))) (gN 4) (sIf (bTest (eBin oGt (eVar 3) (eC (.int 0)))) (sSeq (sDrop (eApp (eVar 1) (eBin oMod (eCa cInt (aCons (eVar 3) (aNil))) (eC (.int 65536))))) (sAsg (eBin oFdiv (eVar 3) (eC (.int 65536))) (gN 3))) (sNext))) (sSeq (sAsg (eBin oMod (eCa cInt (aCons (eBin oAdd (eBin oMul (eVar 3) (eC (.int 48271))) (eBin oMul (eBin oAdd (eVar 2) (eC (.int 1))) (eC (.int 69621)))) (aNil))) (eC (.int 2147483647))) (gN 5)) (sSeq (sAsg (eBin oMod (eCa cInt (aCons (eBin oAdd (eBin oAdd (eBin oMul (eVar 5) (eC (.int 16807))) (eBin oMul (eC (.int 11)) (eVar 2))) (eC (.int 5))) (aNil))) (eC (.int 2147483629))) (gN 5)) (sSeq (sDrop (eApp (eVar 1) (eBin oMod (eCa cInt (aCons (eVar 5) (aNil))) (eC (.int 65536))))) (sDrop (eApp (eVar 1) (eBin oMod (eCa cInt (aCons (eBin oFdiv (eVar 5) (eC (.int 65536))) (aNil))) (eC (.int 32768)))))))))) (.int (0 + (k : Int))) [some (.rls (ns.map .int)), some (.loc 0), a2, a3, a4, a5] [.lst (ds.map .int)] = some (.nx ρ1, M1) ∧ ∃ (ds : List Int) (a2 a3 a4 a5 : Option D), ρ1 = [some (.rls (ns.map .int)), some (.loc 0), a2, a3, a4, a5] ∧ M1 = [.lst (ds.map .int)] ∧ ds.length ≤ 60 * (0 + k + 1)) := by
  have h1 : atI (ns.map D.int) (0 + (k : Int)) = some (D.int x) := atI_map hx (by omega)
  have hz : ds.length < 999999 := by omega
  have ha : sAsg (eCa cAbs (aCons (eBin oIx (eVar 0) (eVar 2)) (aNil))) (gN 3) [some (.rls (ns.map .int)), some (.loc 0), some (.int (0 + (k : Int))), a3, a4, a5] [.lst (ds.map .int)] = some (.nx [some (.rls (ns.map .int)), some (.loc 0), some (.int (0 + (k : Int))), some (.int (if x < 0 then -x else x)), a4, a5], [.lst (ds.map .int)]) := by
    walk_at "y*"
  have hc : bTest (eBin oGe (eVar 3) (eBin oPow (eC (.int 10)) (eC (.int 18)))) [some (.rls (ns.map .int)), some (.loc 0), some (.int (0 + (k : Int))), some (.int (if x < 0 then -x else x)), a4, a5] [.lst (ds.map .int)] = some (false, [.lst (ds.map .int)]) := by
    walk_at "y*"
  have fin := ((turn_eq (d := .int (0 + (k : Int))) (ρ := [some (.rls (ns.map .int)), some (.loc 0), a2, a3, a4, a5]) (ρ1 := [some (.rls (ns.map .int)), some (.loc 0), some (.int (0 + (k : Int))), a3, a4, a5]) (M := [.lst (ds.map .int)]) (M1 := [.lst (ds.map .int)]) rfl).trans ((seq_nx ha).trans ((if_no hc).trans ((seq_nx (small_a _ _ _ _ _ _ _)).trans ((seq_nx (small_b _ _ _ _ _ _ _)).trans (small_c _ _ ds _ _ _ hz))))) : turn (gN 2) (sSeq (sAsg (eCa cAbs (aCons (eBin oIx (eVar 0) (eVar 2)) (aNil))) (gN 3)) (sIf (bTest (eBin oGe (eVar 3) (eBin oPow (eC (.int 10)) (eC (.int 18))))) (sFor (iR1 (aCons (eC (.int 60)) (aNil))) (gN 4) (sIf (bTest (eBin oGt (eVar 3) (eC (.int 0)))) (sSeq (sDrop (eApp (eVar 1) (eBin oMod (eCa cInt (aCons (eVar 3) (aNil))) (eC (.int 65536))))) (sAsg (eBin oFdiv (eVar 3) (eC (.int 65536))) (gN 3))) (sNext))) (sSeq (sAsg (eBin oMod (eCa cInt (aCons (eBin oAdd (eBin oMul (eVar 3) (eC (.int 48271))) (eBin oMul (eBin oAdd (eVar 2) (eC (.int 1))) (eC (.int 69621)))) (aNil))) (eC (.int 2147483647))) (gN 5)) (sSeq (sAsg (eBin oMod (eCa cInt (aCons (eBin oAdd (eBin oAdd (eBin oMul (eVar 5) (eC (.int 16807))) (eBin oMul (eC (.int 11)) (eVar 2))) (eC (.int 5))) (aNil))) (eC (.int 2147483629))) (gN 5)) (sSeq (sDrop (eApp (eVar 1) (eBin oMod (eCa cInt (aCons (eVar 5) (aNil))) (eC (.int 65536))))) (sDrop (eApp (eVar 1) (eBin oMod (eCa cInt (aCons (eBin oFdiv (eVar 5) (eC (.int 65536))) (aNil))) (eC (.int 32768)))))))))) (.int (0 + (k : Int))) _ _ = _)
  exact ⟨_, _, fin, _, _, _, _, _, rfl, rfl, by simp; omega⟩
theorem run_draws (ns : List Int) : ∃ ds, f__law_draws [.rls (ns.map .int)] = some (encI ds) := by
  have outer : ∀ (n : Int), n ≤ 63 → n ≤ ns.length → ∃ ρ1 M1, forGo (gN 2) (sSeq (sAsg (eCa cAbs (aCons (eBin oIx (eVar 0) (eVar 2)) (aNil))) (gN 3)) (sIf (bTest (eBin oGe (eVar 3) (eBin oPow (eC (.int 10)) (eC (.int 18))))) (sFor (iR1 (aCons (eC (.int 60)) (aNil))) (gN 4) (sIf (bTest (eBin oGt (eVar 3) (eC (.int 0)))) (sSeq (sDrop (eApp (eVar 1) (eBin oMod (eCa cInt (aCons (eVar 3) (aNil))) (eC (.int 65536))))) (sAsg (eBin oFdiv (eVar 3) (eC (.int 65536))) (gN 3))) (sNext))) (sSeq (sAsg (eBin oMod (eCa cInt (aCons (eBin oAdd (eBin oMul (eVar 3) (eC (.int 48271))) (eBin oMul (eBin oAdd (eVar 2) (eC (.int 1))) (eC (.int 69621)))) (aNil))) (eC (.int 2147483647))) (gN 5)) (sSeq (sAsg (eBin oMod (eCa cInt (aCons (eBin oAdd (eBin oAdd (eBin oMul (eVar 5) (eC (.int 16807))) (eBin oMul (eC (.int 11)) (eVar 2))) (eC (.int 5))) (aNil))) (eC (.int 2147483629))) (gN 5)) (sSeq (sDrop (eApp (eVar 1) (eBin oMod (eCa cInt (aCons (eVar 5) (aNil))) (eC (.int 65536))))) (sDrop (eApp (eVar 1) (eBin oMod (eCa cInt (aCons (eBin oFdiv (eVar 5) (eC (.int 65536))) (aNil))) (eC (.int 32768)))))))))) none (rngD 0 n) [some (.rls (ns.map .int)), some (.loc 0), none, none, none, none] [.lst []] = some (.nx ρ1, M1) ∧
      ∃ (ds : List Int) (a2 a3 a4 a5 : Option D), ρ1 = [some (.rls (ns.map .int)), some (.loc 0), a2, a3, a4, a5] ∧ M1 = [.lst (ds.map .int)] ∧ ds.length ≤ 60 * (0 + (rngD 0 n).length) := by
    intro n hn hn2
    refine forGo_inv (fun k ρ M => ∃ (ds : List Int) (a2 a3 a4 a5 : Option D), ρ = [some (.rls (ns.map .int)), some (.loc 0), a2, a3, a4, a5] ∧ M = [.lst (ds.map .int)] ∧ ds.length ≤ 60 * k) _ 0 _ _ ?_ ⟨[], none, none, none, none, rfl, rfl, by simp⟩
    rintro k d ρ M hd ⟨ds, a2, a3, a4, a5, rfl, rfl, hl⟩
    have hj := (List.getElem?_eq_some_iff.mp hd).1
    rw [rngD_len] at hj
    obtain ⟨rfl, hk⟩ := rng_get hd
    have hns : ∃ x, ns[k]? = some x := ⟨_, List.getElem?_eq_getElem (by omega)⟩
    obtain ⟨x, hx⟩ := hns
    by_cases hb : 1000000000000000000 ≤ if x < 0 then -x else x
    · exact draws_big ns ds k x a2 a3 a4 a5 hl (by omega) hx hb
    · exact draws_small ns ds k x a2 a3 a4 a5 hl (by omega) hx hb
  have hmin : ((if (ns.length : Int) < 63 then (ns.length : Int) else 63)) ≤ 63 ∧ (if (ns.length : Int) < 63 then (ns.length : Int) else 63) ≤ (ns.length : Int) ∧ 0 ≤ (if (ns.length : Int) < 63 then (ns.length : Int) else 63) := by split <;> omega
  obtain ⟨ρ1, M1, e, ds, a2, a3, a4, a5, rfl, rfl, hl⟩ := outer _ hmin.1 hmin.2.1
  refine ⟨ds, runP_rt (d := encI ds) (M := [.dead]) ?_ (fz1_pure (pure_encI ds))⟩
  have pp := pure_encI ds
  rw [show pureD (encI ds) = pureL (ds.map .int) by simp only [encI, pureD]] at pp
  have b1 : (-1152921504606846976 ≤ if (ns.length : Int) < 63 then (ns.length : Int) else 63) = True := eq_true (by omega)
  have b2 : ((if (ns.length : Int) < 63 then (ns.length : Int) else 63) < 1152921504606846976) = True := eq_true (by omega)
  unfold B__law_draws
  walk_at "y*"
  rfl
noncomputable def mixv (ds : List Int) (k many : Int) : Int := match f__law_mix [encI ds, .int k, .int many] with
  | some (.int v) => v
  | _ => 0
theorem run_mix0 (ds : List Int) (k : Int) {many : Int} (h : 0 < many) : ∃ v, f__law_mix [encI ds, .int k, .int many] = some (.int v) ∧ 0 ≤ v ∧ v < many := by
  have m1 : ∀ x : Int, mulOk x 7919 = true := fun x => mulOk_r (by decide) (by decide)
  have m2 : ∀ x : Int, mulOk x 104729 = true := fun x => mulOk_r (by decide) (by decide)
  have w2 : ((3 : Int).natAbs < 1073741824) = True := eq_true (by decide)
  have hm : (many = 0) = False := eq_false (by omega)
  have lo : ∀ x : Int, 0 ≤ x.fmod many := fun x => Int.fmod_nonneg_of_pos _ h
  have hi : ∀ x : Int, x.fmod many < many := fun x => Int.fmod_lt_of_pos _ h
  have val : ∃ v : Int, B__law_mix [some (encI ds), some (.int k), some (.int many), none] [] = some (.rt (.int (v.fmod many)), []) := by
    unfold B__law_mix encI
    by_cases hl : 0 < (ds.length : Int)
    · have hl0 : ((ds.length : Int) = 0) = False := eq_false (by omega)
      have g : ∃ y, atI (ds.map D.int) (k.fmod (ds.length : Int)) = some (.int y) := by
        have h1 := Int.fmod_nonneg_of_pos k hl
        have h2 := Int.fmod_lt_of_pos k hl
        exact ⟨_, atI_map (i := (k.fmod (ds.length : Int)).toNat) (List.getElem?_eq_getElem (by omega)) (by omega)⟩
      obtain ⟨y, hy⟩ := g
      by_cases hk : k < (ds.length : Int)
      · refine ⟨y, ?_⟩
        walk_at "y*"
      · refine ⟨(y * 7919 + k * 104729).fdiv 3, ?_⟩
        walk_at "y*"
    · by_cases hk : k < (ds.length : Int)
      · refine ⟨0, ?_⟩
        walk_at "y*"
      · refine ⟨(0 * 7919 + k * 104729).fdiv 3, ?_⟩
        walk_at "y*"
  obtain ⟨v, e⟩ := val
  exact ⟨v.fmod many, runP_rt e (fz1_pure rfl), lo v, hi v⟩
theorem run_mix (ds : List Int) (k : Int) {many : Int} (h : 0 < many) : f__law_mix [encI ds, .int k, .int many] = some (.int (mixv ds k many)) := by
  obtain ⟨v, e, _⟩ := run_mix0 ds k h
  unfold mixv
  rw [e]
theorem mix_lim (ds : List Int) (k : Int) {many : Int} (h : 0 < many) : 0 ≤ mixv ds k many ∧ mixv ds k many < many := by
  obtain ⟨v, e, h1⟩ := run_mix0 ds k h
  unfold mixv
  rw [e]
  exact h1
theorem asc_snoc {t : Int × Int × Int} : ∀ {ts : List (Int × Int × Int)}, Asc ts → (∀ x ∈ ts, x.1 < t.1) → Asc (ts ++ [t])
  | [], _, _ => trivial
  | [a], _, h => ⟨h a (by simp), trivial⟩
  | a :: b :: r, h, hx => ⟨h.1, asc_snoc h.2 fun x hm => hx x (List.mem_cons_of_mem _ hm)⟩
theorem pure_ints {ns : List Int} : pureL (ns.map .int) = true := pureL_map fun _ => rfl
theorem law_book_gen (ds : List Int) (fst kind c0 c1 c2 c3 c4 c5 : Int)
    (k0 : atI [D.int 6, D.int 50, D.int 100001] kind = some (.int c0)) (k1 : atI [D.int 3, D.int 5, D.int 5] kind = some (.int c1)) (k2 : atI [D.int 4, D.int 12, D.int 60] kind = some (.int c2))
    (k3 : atI [D.int 4, D.int 20, D.int 1001] kind = some (.int c3)) (k4 : atI [D.int 6, D.int 25, D.int 59] kind = some (.int c4)) (k5 : atI [D.int 20, D.int 400, D.int 1000001] kind = some (.int c5))
    (b0 : 0 < c0 ∧ c0 ≤ 100001) (b1 : 0 < c1 ∧ c1 ≤ 5) (b2 : 0 < c2 ∧ c2 ≤ 60) (b3 : 0 < c3 ∧ c3 ≤ 1001) (b4 : 0 < c4 ∧ c4 ≤ 59) (b5 : 0 < c5 ∧ c5 ≤ 1000001) : ∃ b, f__law_book [encI ds, .int fst, .int kind] = some (encB b) ∧ BkOk b ∧ b.base < c0 ∧ ∀ t ∈ b.tiers, t.2.1 ≤ c2 ∧ t.2.2 < c3 ∧ t.1 ≤ c4 * 5 := by
  have q0 := fun k => run_mix ds k b0.1
  have q1 := fun k => run_mix ds k b1.1
  have q2 := fun k => run_mix ds k b2.1
  have q3 := fun k => run_mix ds k b3.1
  have q4 := fun k => run_mix ds k b4.1
  have q5 := fun k => run_mix ds k b5.1
  have q6 := fun k => run_mix ds k (many := 2) (by decide)
  have pd := pure_encI ds
  have m4 : ∀ x : Int, mulOk 4 x = true := fun x => mulOk_l (by decide) (by decide)
  have lim1 := mix_lim ds (fst + 1) b1.1
  have loop : ∃ ρ1 M1, forGo (gN 6) (sSeq (sAsg (eBin oAdd (eBin oAdd (eVar 1) (eC (.int 10))) (eBin oMul (eC (.int 4)) (eVar 6))) (gN 7)) (sSeq (sAsg (eBin oAdd (eC (.int 1)) (eCall f__law_mix (aCons (eVar 0) (aCons (eVar 7) (aCons (eBin oIx (eFrz (lLst (aCons (eC (.int 4)) (aCons (eC (.int 12)) (aCons (eC (.int 60)) (aNil)))))) (eVar 2)) (aNil)))))) (gN 8)) (sSeq (sDrop (eApp (eVar 4) (eTup (aCons (eVar 5) (aCons (eVar 8) (aCons (eCall f__law_mix (aCons (eVar 0) (aCons (eBin oAdd (eVar 7) (eC (.int 1))) (aCons (eBin oIx (eFrz (lLst (aCons (eC (.int 4)) (aCons (eC (.int 20)) (aCons (eC (.int 1001)) (aNil)))))) (eVar 2)) (aNil))))) (aNil))))))) (sAsg (eBin oAdd (eBin oAdd (eVar 5) (eC (.int 1))) (eCall f__law_mix (aCons (eVar 0) (aCons (eBin oAdd (eVar 7) (eC (.int 2))) (aCons (eBin oIx (eFrz (lLst (aCons (eC (.int 6)) (aCons (eC (.int 25)) (aCons (eC (.int 59)) (aNil)))))) (eVar 2)) (aNil)))))) (gN 5))))) none (rngD 0 (1 + mixv ds (fst + 1) c1)) [some (encI ds), some (.int fst), some (.int kind), some (.int (mixv ds fst c0)), some (.loc 0), some (.int 0), none, none, none, none] [.lst []] = some (.nx ρ1, M1) ∧
      ∃ (ts : List (Int × Int × Int)) (st : Int) (a6 a7 a8 : Option D), ρ1 = [some (encI ds), some (.int fst), some (.int kind), some (.int (mixv ds fst c0)), some (.loc 0), some (.int st), a6, a7, a8, none] ∧ M1 = [.lst (ts.map encT)] ∧
        ts.length = 0 + (rngD 0 (1 + mixv ds (fst + 1) c1)).length ∧ (∀ t ∈ ts, TierOk t) ∧ Asc ts ∧ (∀ t ∈ ts, t.1 < st) ∧ (∀ t r, ts = t :: r → t.1 = 0) ∧ (ts = [] → st = 0) ∧ 0 ≤ st ∧ st ≤ c4 * ((0 + (rngD 0 (1 + mixv ds (fst + 1) c1)).length : Nat) : Int) ∧ ∀ t ∈ ts, t.2.1 ≤ c2 ∧ t.2.2 < c3 := by
    refine forGo_inv (fun i ρ M => ∃ (ts : List (Int × Int × Int)) (st : Int) (a6 a7 a8 : Option D), ρ = [some (encI ds), some (.int fst), some (.int kind), some (.int (mixv ds fst c0)), some (.loc 0), some (.int st), a6, a7, a8, none] ∧ M = [.lst (ts.map encT)] ∧
        ts.length = i ∧ (∀ t ∈ ts, TierOk t) ∧ Asc ts ∧ (∀ t ∈ ts, t.1 < st) ∧ (∀ t r, ts = t :: r → t.1 = 0) ∧ (ts = [] → st = 0) ∧ 0 ≤ st ∧ st ≤ c4 * (i : Int) ∧ ∀ t ∈ ts, t.2.1 ≤ c2 ∧ t.2.2 < c3) _ 0 _ _ ?_
      ⟨[], 0, none, none, none, rfl, rfl, rfl, fun t h => (nomatch h), trivial, fun t h => (nomatch h), fun t r h => (nomatch h), fun _ => rfl, by decide, by simp, fun t h => (nomatch h)⟩
    rintro i d ρ M hd ⟨ts, st, a6, a7, a8, rfl, rfl, h1, h2, h3, h4, h5, h6, h7, h8, h9⟩
    have hj := (List.getElem?_eq_some_iff.mp hd).1
    rw [rngD_len] at hj
    obtain ⟨rfl, hk⟩ := rng_get hd
    have l2 := mix_lim ds (fst + 10 + 4 * (0 + (i : Int))) b2.1
    have l3 := mix_lim ds (fst + 10 + 4 * (0 + (i : Int)) + 1) b3.1
    have l4 := mix_lim ds (fst + 10 + 4 * (0 + (i : Int)) + 2) b4.1
    have hz : (ts.length < 1000000) = True := eq_true (by omega)
    rw [h1] at hz
    rw [Nat.zero_add] at *
    have h59 : c4 * (i : Int) ≤ 59 * (i : Int) := Int.mul_le_mul_of_nonneg_right b4.2 (by omega)
    have hnx : c4 * ((i + 1 : Nat) : Int) = c4 * (i : Int) + c4 := by rw [Int.natCast_succ, Int.mul_add, Int.mul_one]
    refine ⟨_, _, ?_, ts ++ [(st, 1 + mixv ds (fst + 10 + 4 * (0 + (i : Int))) c2, mixv ds (fst + 10 + 4 * (0 + (i : Int)) + 1) c3)], st + 1 + mixv ds (fst + 10 + 4 * (0 + (i : Int)) + 2) c4, some (.int (0 + (i : Int))), some (.int (fst + 10 + 4 * (0 + (i : Int)))), some (.int (1 + mixv ds (fst + 10 + 4 * (0 + (i : Int))) c2)), rfl, rfl, by simp [h1], ?_, asc_snoc h3 h4, ?_, ?_, ?_, by omega, by omega, ?_⟩
    · rw [List.map_append]
      walk_at "y*"
      rfl
    · intro t ht
      rcases List.mem_append.mp ht with ht | ht
      · exact h2 t ht
      · rw [List.mem_singleton] at ht
        subst ht
        refine ⟨?_, ?_, ?_, ?_, ?_, ?_⟩ <;> dsimp only <;> omega
    · intro t ht
      rcases List.mem_append.mp ht with ht | ht
      · have := h4 t ht
        omega
      · rw [List.mem_singleton] at ht
        subst ht
        dsimp only
        omega
    · intro t r ht
      cases hts : ts with
      | nil =>
        rw [hts] at ht
        cases ht
        exact h6 hts
      | cons a as =>
        rw [hts] at ht
        cases ht
        exact h5 t as hts
    · intro ht
      simp at ht
    · intro t ht
      rcases List.mem_append.mp ht with ht | ht
      · exact h9 t ht
      · rw [List.mem_singleton] at ht
        subst ht
        dsimp only
        omega
  obtain ⟨ρ1, M1, e, ts, st, a6, a7, a8, rfl, rfl, h1, h2, h3, h4, h5, h6, h7, h8, h9⟩ := loop
  rw [rngD_len] at h8
  have hlim : ∀ t ∈ ts, t.2.1 ≤ c2 ∧ t.2.2 < c3 ∧ t.1 ≤ c4 * 5 := fun t ht => ⟨(h9 t ht).1, (h9 t ht).2, by
    have g1 := h4 t ht
    have g2 : c4 * ((0 + (1 + mixv ds (fst + 1) c1 - 0).toNat : Nat) : Int) ≤ c4 * 5 := Int.mul_le_mul_of_nonneg_left (by omega) (by omega)
    omega⟩
  rw [rngD_len] at h1
  have pt := pure_encTs ts
  have r1 : (-1152921504606846976 ≤ 1 + mixv ds (fst + 1) c1) = True := eq_true (by omega)
  have r2 : (1 + mixv ds (fst + 1) c1 < 1152921504606846976) = True := eq_true (by omega)
  have lim0 := mix_lim ds fst b0.1
  have lim5 := mix_lim ds (fst + 3) b5.1
  have ok : ∀ cap, (∀ c, cap = some c → 0 ≤ c ∧ c ≤ 1000000) → BkOk ⟨mixv ds fst c0, ts, cap⟩ := fun cap hc => ⟨by show 0 ≤ mixv ds fst c0; omega, by show mixv ds fst c0 ≤ 100000; omega, h2, fun z => (by change ts = [] at z; rw [z] at h1; simp at h1; omega), by show ts.length ≤ 5; omega, h5, h3, hc⟩
  by_cases hc : mixv ds (fst + 2) 2 = 1
  · refine ⟨⟨mixv ds fst c0, ts, some (mixv ds (fst + 3) c5)⟩, ?_, ok _ (fun c h => (by cases h; omega)), lim0.2, hlim⟩
    refine runP_rt (d := encB ⟨mixv ds fst c0, ts, some (mixv ds (fst + 3) c5)⟩) (M := [.dead]) ?_ (fz1_pure (pure_encB _))
    unfold B__law_book encB
    rw [encO_s]
    walk_at "y*"
  · refine ⟨⟨mixv ds fst c0, ts, none⟩, ?_, ok _ (fun c h => (by cases h)), lim0.2, hlim⟩
    refine runP_rt (d := encB ⟨mixv ds fst c0, ts, none⟩) (M := [.dead]) ?_ (fz1_pure (pure_encB _))
    unfold B__law_book encB
    rw [encO_n]
    walk_at "y*"
theorem law_book (ds : List Int) (fst kind : Int) (h : kind = 0 ∨ kind = 1 ∨ kind = 2) : ∃ b, f__law_book [encI ds, .int fst, .int kind] = some (encB b) ∧ BkOk b := by
  rcases h with rfl | rfl | rfl
  · obtain ⟨b, e, h, _⟩ := law_book_gen ds fst 0 _ _ _ _ _ _ (r_at0 ..) (r_at0 ..) (r_at0 ..) (r_at0 ..) (r_at0 ..) (r_at0 ..) (by decide) (by decide) (by decide) (by decide) (by decide) (by decide)
    exact ⟨b, e, h⟩
  · obtain ⟨b, e, h, _⟩ := law_book_gen ds fst 1 _ _ _ _ _ _ (r_at1 ..) (r_at1 ..) (r_at1 ..) (r_at1 ..) (r_at1 ..) (r_at1 ..) (by decide) (by decide) (by decide) (by decide) (by decide) (by decide)
    exact ⟨b, e, h⟩
  · obtain ⟨b, e, h, _⟩ := law_book_gen ds fst 2 _ _ _ _ _ _ (r_at2 ..) (r_at2 ..) (r_at2 ..) (r_at2 ..) (r_at2 ..) (r_at2 ..) (by decide) (by decide) (by decide) (by decide) (by decide) (by decide)
    exact ⟨b, e, h⟩
/-- a small book -/
theorem law_book_small (ds : List Int) (fst kind : Int) (h : kind = 0 ∨ kind = 1) : ∃ b, f__law_book [encI ds, .int fst, .int kind] = some (encB b) ∧ BkOk b ∧ b.base < 50 ∧ ∀ t ∈ b.tiers, t.2.1 ≤ 12 ∧ t.2.2 < 20 ∧ t.1 ≤ 125 := by
  rcases h with rfl | rfl
  · obtain ⟨b, e, h, h1, h2⟩ := law_book_gen ds fst 0 _ _ _ _ _ _ (r_at0 ..) (r_at0 ..) (r_at0 ..) (r_at0 ..) (r_at0 ..) (r_at0 ..) (by decide) (by decide) (by decide) (by decide) (by decide) (by decide)
    exact ⟨b, e, h, by omega, fun t ht => by have := h2 t ht; omega⟩
  · obtain ⟨b, e, h, h1, h2⟩ := law_book_gen ds fst 1 _ _ _ _ _ _ (r_at1 ..) (r_at1 ..) (r_at1 ..) (r_at1 ..) (r_at1 ..) (r_at1 ..) (by decide) (by decide) (by decide) (by decide) (by decide) (by decide)
    exact ⟨b, e, h, by omega, fun t ht => by have := h2 t ht; omega⟩
theorem run_lraw {b : Bk} (h : BkOk b) (l : Int) : f__law_raw [encB b, .int l] = some (.int (rawL b l)) := by
  have m1 : ∀ x : Int, ∀ t ∈ b.tiers, mulOk t.2.2 x = true := fun x t ht => mulOk_l (by have := (h.tk t ht).p0; omega) (by have := (h.tk t ht).p1; omega)
  have loop : ∃ ρ1 M1, forGo (gN 6) (sSeq (sAsg (eBin oIx (eVar 3) (eVar 6)) (gT 3 (gsCons (gN 7) (gsCons (gN 8) (gsCons (gN 9) (gsNil)))))) (sSeq (sAsg (eBin oSub (eVar 1) (eVar 7)) (gN 10)) (sSeq (sIf (bTest (eBin oLt (eBin oAdd (eVar 6) (eC (.int 1))) (eCa cLen (aCons (eVar 3) (aNil))))) (sAsg (eCa cMin2 (aCons (eVar 10) (aCons (eBin oSub (eBin oIx (eBin oIx (eVar 3) (eBin oAdd (eVar 6) (eC (.int 1)))) (eC (.int 0))) (eVar 7)) (aNil)))) (gN 10)) (sNext)) (sIf (bTest (eBin oGt (eVar 10) (eC (.int 0)))) (sAsg (eBin oAdd (eVar 5) (eBin oMul (eVar 9) (eCa cInt (aCons (eBin oFdiv (eBin oSub (eBin oAdd (eVar 10) (eVar 8)) (eC (.int 1))) (eVar 8)) (aNil))))) (gN 5)) (sNext))))) none (rngD 0 (b.tiers.length : Int)) [some (encB b), some (.int l), some (.int b.base), some (.lst (b.tiers.map encT)), some (encO b.cap), some (.int b.base), none, none, none, none, none] [] = some (.nx ρ1, M1) ∧
      ∃ (tot : Int) (a6 a7 a8 a9 a10 : Option D), ρ1 = [some (encB b), some (.int l), some (.int b.base), some (.lst (b.tiers.map encT)), some (encO b.cap), some (.int tot), a6, a7, a8, a9, a10] ∧ M1 = [] ∧ lr l tot (b.tiers.drop (0 + (rngD 0 (b.tiers.length : Int)).length)) = rawL b l := by
    refine forGo_inv (fun i ρ M => ∃ (tot : Int) (a6 a7 a8 a9 a10 : Option D), ρ = [some (encB b), some (.int l), some (.int b.base), some (.lst (b.tiers.map encT)), some (encO b.cap), some (.int tot), a6, a7, a8, a9, a10] ∧ M = [] ∧ lr l tot (b.tiers.drop i) = rawL b l) _ 0 _ _ ?_
      ⟨b.base, none, none, none, none, none, rfl, rfl, rfl⟩
    rintro i d ρ M hd ⟨tot, a6, a7, a8, a9, a10, rfl, rfl, h1⟩
    have hj := (List.getElem?_eq_some_iff.mp hd).1
    rw [rngD_len] at hj
    obtain ⟨rfl, hk⟩ := rng_get hd
    rw [Nat.zero_add] at h1 ⊢
    have hi : i < b.tiers.length := by omega
    obtain ⟨t, ht⟩ : ∃ t, b.tiers[i]? = some t := ⟨_, List.getElem?_eq_getElem hi⟩
    have ok := h.tk t (List.mem_of_getElem? ht)
    have hdr : b.tiers.drop i = t :: b.tiers.drop (i + 1) := by
      rw [List.drop_eq_getElem_cons hi, (List.getElem?_eq_some_iff.mp ht).2]
    have hix : atI (b.tiers.map encT) (0 + (i : Int)) = some (encT t) := atI_map ht (by omega)
    have mm := fun x => m1 x t (List.mem_of_getElem? ht)
    have hu : (t.2.1 = 0) = False := eq_false (by have := ok.u0; omega)
    have hu2 : (t.2.1.natAbs < 1073741824) = True := eq_true (by have := ok.u0; have := ok.u1; omega)
    have up : ∀ x, (x + t.2.1 - 1).fdiv t.2.1 = cdiv x t.2.1 := fun x => cdiv_up (by have := ok.u0; omega)
    have step : ∀ (part : Int), lr l (tot + partF t part) (b.tiers.drop (i + 1)) = rawL b l → (if i + 1 < b.tiers.length then ∃ t2, b.tiers[i + 1]? = some t2 ∧ part = (if t2.1 - t.1 < l - t.1 then t2.1 - t.1 else l - t.1) else part = l - t.1) →
        ∃ ρ1 M1, turn (gN 6) (sSeq (sAsg (eBin oIx (eVar 3) (eVar 6)) (gT 3 (gsCons (gN 7) (gsCons (gN 8) (gsCons (gN 9) (gsNil)))))) (sSeq (sAsg (eBin oSub (eVar 1) (eVar 7)) (gN 10)) (sSeq (sIf (bTest (eBin oLt (eBin oAdd (eVar 6) (eC (.int 1))) (eCa cLen (aCons (eVar 3) (aNil))))) (sAsg (eCa cMin2 (aCons (eVar 10) (aCons (eBin oSub (eBin oIx (eBin oIx (eVar 3) (eBin oAdd (eVar 6) (eC (.int 1)))) (eC (.int 0))) (eVar 7)) (aNil)))) (gN 10)) (sNext)) (sIf (bTest (eBin oGt (eVar 10) (eC (.int 0)))) (sAsg (eBin oAdd (eVar 5) (eBin oMul (eVar 9) (eCa cInt (aCons (eBin oFdiv (eBin oSub (eBin oAdd (eVar 10) (eVar 8)) (eC (.int 1))) (eVar 8)) (aNil))))) (gN 5)) (sNext))))) (.int (0 + (i : Int))) [some (encB b), some (.int l), some (.int b.base), some (.lst (b.tiers.map encT)), some (encO b.cap), some (.int tot), a6, a7, a8, a9, a10] [] = some (.nx ρ1, M1) ∧
        ∃ (tot : Int) (a6 a7 a8 a9 a10 : Option D), ρ1 = [some (encB b), some (.int l), some (.int b.base), some (.lst (b.tiers.map encT)), some (encO b.cap), some (.int tot), a6, a7, a8, a9, a10] ∧ M1 = [] ∧ lr l tot (b.tiers.drop (i + 1)) = rawL b l := by
      intro part hp hq
      refine ⟨_, _, ?_, tot + partF t part, some (.int (0 + (i : Int))), some (.int t.1), some (.int t.2.1), some (.int t.2.2), some (.int part), rfl, rfl, hp⟩
      unfold partF
      by_cases hc : i + 1 < b.tiers.length
      · rw [if_pos hc] at hq
        obtain ⟨t2, ht2, hq⟩ := hq
        have hix2 : atI (b.tiers.map encT) (0 + (i : Int) + 1) = some (encT t2) := atI_map ht2 (by omega)
        have hc2 : (0 + (i : Int) + 1 < (b.tiers.length : Int)) = True := eq_true (by omega)
        by_cases g : 0 < part
        · rw [if_pos g]
          rw [hq] at g ⊢
          unfold encT
          unfold encT at hix hix2
          walk_at "y*"
        · rw [if_neg g, Int.add_zero]
          rw [hq] at g ⊢
          unfold encT
          unfold encT at hix hix2
          walk_at "y*"
      · rw [if_neg hc] at hq
        have hc2 : (0 + (i : Int) + 1 < (b.tiers.length : Int)) = False := eq_false (by omega)
        by_cases g : 0 < part
        · rw [if_pos g]
          rw [hq] at g ⊢
          unfold encT
          unfold encT at hix
          walk_at "y*"
        · rw [if_neg g, Int.add_zero]
          rw [hq] at g ⊢
          unfold encT
          unfold encT at hix
          walk_at "y*"
    by_cases hc : i + 1 < b.tiers.length
    · obtain ⟨t2, ht2⟩ : ∃ t2, b.tiers[i + 1]? = some t2 := ⟨_, List.getElem?_eq_getElem hc⟩
      have hdr2 : b.tiers.drop (i + 1) = t2 :: b.tiers.drop (i + 2) := by
        rw [List.drop_eq_getElem_cons hc, (List.getElem?_eq_some_iff.mp ht2).2]
      refine step _ ?_ (by rw [if_pos hc]; exact ⟨t2, ht2, rfl⟩)
      rw [hdr, hdr2] at h1
      rw [hdr2]
      exact h1
    · have hdr2 : b.tiers.drop (i + 1) = [] := List.drop_eq_nil_of_le (by omega)
      refine step _ ?_ (by rw [if_neg hc])
      rw [hdr, hdr2] at h1
      rw [hdr2]
      exact h1
  obtain ⟨ρ1, M1, e, tot, a6, a7, a8, a9, a10, rfl, rfl, hr⟩ := loop
  have hd : b.tiers.drop (0 + (rngD 0 (b.tiers.length : Int)).length) = [] := List.drop_eq_nil_of_le (by rw [rngD_len]; omega)
  rw [hd] at hr
  have hr : tot = rawL b l := hr
  have ln := h.ln
  have r1 : (-1152921504606846976 ≤ (b.tiers.length : Int)) = True := eq_true (by omega)
  have r2 : ((b.tiers.length : Int) < 1152921504606846976) = True := eq_true (by omega)
  refine runP_rt (d := .int (rawL b l)) (M := []) ?_ (fz1_pure rfl)
  unfold B__law_raw
  unfold encB at e ⊢
  walk_at "y*"
theorem ix_cap (b : Bk) (M : Sto) : oIx M (encB b) (.int 2) = some (encO b.cap) := by
  unfold encB
  walk_at "y*"
theorem ix_tiers (b : Bk) (M : Sto) : oIx M (encB b) (.int 1) = some (.lst (b.tiers.map encT)) := by
  unfold encB
  walk_at "y*"
theorem run_lfare {b : Bk} (h : BkOk b) (l : Int) : f__law_fare [encB b, .int l] = some (.int (fareL b l)) := by
  have hr := run_lraw h l
  have hc := ix_cap b
  have pb := pure_encB b
  refine runP_rt (d := .int (fareL b l)) (M := []) ?_ (fz1_pure rfl)
  unfold B__law_fare fareL
  cases hcap : b.cap with
  | none =>
    rw [hcap] at hc
    change ∀ M, oIx M (encB b) (.int 2) = some .non at hc
    walk_at "y*"
  | some c =>
    rw [hcap] at hc
    change ∀ M, oIx M (encB b) (.int 2) = some (.int c) at hc
    by_cases g : c < rawL b l
    · walk_at "y*"
    · walk_at "y*"
/-! ### slices -/
theorem cut_to (xs : List D) {k : Int} {n : Nat} (hk : k = (n : Int)) : cutD xs none (some k) = xs.take n := by
  subst hk
  unfold cutD
  rw [HT.sIx_nat, HT.sIx_none]
  show (xs.drop 0).take (min n xs.length - 0) = xs.take n
  rw [List.drop_zero, Nat.sub_zero, List.take_eq_take_iff]
  omega
theorem cut_from (xs : List D) {k : Int} {n : Nat} (hk : k = (n : Int)) : cutD xs (some k) none = xs.drop n := by
  subst hk
  unfold cutD
  rw [HT.sIx_nat, HT.sIx_none]
  by_cases h : n ≤ xs.length
  · rw [Nat.min_eq_left h]
    exact List.take_of_length_le (by simp)
  · rw [Nat.min_eq_right (by omega), List.drop_length, List.drop_eq_nil_of_le (by omega)]
    simp
theorem bk_same {b : Bk} (h : BkOk b) {base : Int} {ts : List (Int × Int × Int)} {cap : Option Int} (h0 : 0 ≤ base ∧ base ≤ 100000) (hf : ts.map (·.1) = b.tiers.map (·.1)) (hk : ∀ t ∈ ts, TierOk t) (hc : ∀ c, cap = some c → 0 ≤ c ∧ c ≤ 1000000) : BkOk ⟨base, ts, cap⟩ := by
  have hl : ts.length = b.tiers.length := by
    have := congrArg List.length hf
    simpa using this
  refine ⟨h0.1, h0.2, hk, fun z => ?_, by show ts.length ≤ 5; have := h.ln; omega, fun t r z => ?_, ?_, hc⟩
  · change ts = [] at z
    rw [z] at hl
    exact h.ne (List.length_eq_zero_iff.mp (by simp at hl; omega))
  · change ts = t :: r at z
    rw [z] at hf
    cases hb : b.tiers with
    | nil => rw [hb] at hf; cases hf
    | cons t' r' =>
      rw [hb] at hf
      have e := h.fz t' r' hb
      rw [List.map_cons, List.map_cons] at hf
      have := (List.cons.inj hf).1
      omega
  · show Asc ts
    rw [← ascB_iff, hf, ascB_iff]
    exact h.as
theorem asc_pw : ∀ {ts : List (Int × Int × Int)}, Asc ts → (ts.map (·.1)).Pairwise (· < ·)
  | [], _ => .nil
  | [t], _ => by simp
  | t :: t2 :: r, h => by
    rw [List.map_cons]
    refine List.pairwise_cons.mpr ⟨fun x hx => ?_, asc_pw h.2⟩
    obtain ⟨y, hy, rfl⟩ := List.mem_map.mp hx
    exact asc_head h y hy
/-- one tier exchanged -/
theorem swap_ok {b : Bk} (h : BkOk b) {n : Nat} {t u : Int × Int × Int} (ht : b.tiers[n]? = some t) (he : u.1 = t.1) (hu : TierOk u) : BkOk ⟨b.base, b.tiers.take n ++ [u] ++ b.tiers.drop (n + 1), b.cap⟩ := by
  have hlt := (List.getElem?_eq_some_iff.mp ht).1
  have hd : b.tiers.drop n = t :: b.tiers.drop (n + 1) := by
    rw [List.drop_eq_getElem_cons hlt, (List.getElem?_eq_some_iff.mp ht).2]
  refine bk_same h ⟨h.b0, h.b1⟩ ?_ (fun x hx => ?_) h.cp
  · rw [List.map_append, List.map_append]
    rw [show b.tiers.map (·.1) = (b.tiers.take n).map (·.1) ++ ((t :: b.tiers.drop (n + 1)).map (·.1)) by rw [← List.map_append, ← hd, List.take_append_drop]]
    simp [he]
  · rcases List.mem_append.mp hx with hx | hx
    · rcases List.mem_append.mp hx with hx | hx
      · exact h.tk x (List.mem_of_mem_take hx)
      · rw [List.mem_singleton] at hx
        subst hx
        exact hu
    · exact h.tk x (List.mem_of_mem_drop hx)
theorem run_turned {b : Bk} (h : BkOk b) (hb : b.base < 50) (hs : ∀ t ∈ b.tiers, t.2.1 ≤ 12 ∧ t.2.2 < 20 ∧ t.1 ≤ 125) (ds : List Int) (fst : Int) : ∃ b2, f__law_turned [encI ds, .int fst, encB b] = some (encB b2) ∧ BkOk b2 := by
  have pd := pure_encI ds
  have ln := h.ln
  have hne : 0 < (b.tiers.length : Int) := by
    have := List.length_pos_iff.mpr h.ne
    omega
  have q7 := fun k => run_mix ds k (many := 7) (by decide)
  have q3 := fun k => run_mix ds k (many := 3) (by decide)
  have q4 := fun k => run_mix ds k (many := 4) (by decide)
  have qn := fun k => run_mix ds k hne
  have l7 := mix_lim ds fst (many := 7) (by decide)
  have ln2 := mix_lim ds (fst + 1) hne
  have l3 := mix_lim ds (fst + 2) (many := 3) (by decide)
  have l4 := mix_lim ds (fst + 2) (many := 4) (by decide)
  obtain ⟨n, hn⟩ : ∃ n : Nat, mixv ds (fst + 1) (b.tiers.length : Int) = (n : Int) := ⟨(mixv ds (fst + 1) (b.tiers.length : Int)).toNat, by omega⟩
  have hnl : n < b.tiers.length := by omega
  obtain ⟨t, ht⟩ : ∃ t, b.tiers[n]? = some t := ⟨_, List.getElem?_eq_getElem hnl⟩
  have hix : atI (b.tiers.map encT) (n : Int) = some (.tup [.int t.1, .int t.2.1, .int t.2.2]) := atI_map ht rfl
  have htm := List.mem_of_getElem? ht
  have ok := h.tk t htm
  have sm := hs t htm
  have f0 := ok.f0
  have f1 := ok.f1
  have u0 := ok.u0
  have p0 := ok.p0
  have ct := cut_to (b.tiers.map encT) (k := (n : Int)) rfl
  have cf := cut_from (b.tiers.map encT) (k := (n : Int) + 1) (n := n + 1) (by omega)
  have lt1 : (((b.tiers.map encT).take n).length + 1 ≤ 1000000) = True := eq_true (by simp; omega)
  have lt2 : (((b.tiers.map encT).take n).length + 1 + ((b.tiers.map encT).drop (n + 1)).length ≤ 1000000) = True := eq_true (by simp; omega)
  have lt3 : (b.tiers.length + 1 ≤ 1000000) = True := eq_true (by omega)
  have fin : ∀ b2, BkOk b2 → (∃ M, B__law_turned [some (encI ds), some (.int fst), some (encB b), none, none, none, none, none, none, none, none] [] = some (.rt (encB b2), M)) → ∃ b2, f__law_turned [encI ds, .int fst, encB b] = some (encB b2) ∧ BkOk b2 := by
    rintro b2 h2 ⟨M, e⟩
    refine ⟨b2, runP_rt e (fz1_pure (pure_encB b2)), h2⟩
  generalize hw : mixv ds fst 7 = word at l7
  have hw7 : f__law_mix [encI ds, .int fst, .int 7] = some (.int word) := by rw [q7, hw]
  have hmn : f__law_mix [encI ds, .int (fst + 1), .int (b.tiers.length : Int)] = some (.int (n : Int)) := by rw [qn, hn]
  clear qn q7
  have hcase : word = 0 ∨ word = 1 ∨ word = 2 ∨ word = 3 ∨ word = 4 ∨ word = 5 ∨ word = 6 := by omega
  have bookE : word ≠ 0 → word ≠ 1 → word ≠ 2 → word ≠ 3 → word ≠ 5 → (word = 4 → ¬ ((n : Int) = (b.tiers.length : Int) - 1 ∧ (b.tiers.length : Int) < 5)) → ∃ b2, f__law_turned [encI ds, .int fst, encB b] = some (encB b2) ∧ BkOk b2 := by
    intro w0 w1 w2 w3 w5 w4
    obtain ⟨b2, e2, ok2⟩ := law_book ds (fst + 10) 0 (.inl rfl)
    refine fin b2 ok2 ⟨[], ?_⟩
    unfold B__law_turned
    unfold encB
    unfold encB at e2
    by_cases g4 : word = 4
    · by_cases g5 : (n : Int) = (b.tiers.length : Int) - 1
      · have g6 : ¬ (b.tiers.length : Int) < 5 := fun z => w4 g4 ⟨g5, z⟩
        have g6' : ((b.tiers.length : Int) < 5) = False := eq_false g6
        have g5' : decide ((n : Int) = (b.tiers.length : Int) - 1) = true := decide_eq_true g5
        clear g5
        subst g4
        walk_at "y*"
      · subst g4
        walk_at "y*"
    · walk_at "y*"
  rcases hcase with rfl | rfl | rfl | rfl | rfl | rfl | rfl
  · refine fin ⟨b.base + 1 + mixv ds (fst + 2) 3, b.tiers, b.cap⟩ (bk_same h (by have := h.b0; omega) rfl h.tk h.cp) ⟨[], ?_⟩
    unfold B__law_turned encB
    walk_at "y*"
  · refine fin _ (swap_ok h ht (u := (t.1, t.2.1, t.2.2 + 1)) rfl ⟨f0, f1, u0, by dsimp only; omega, by dsimp only; omega, by dsimp only; omega⟩) ⟨[], ?_⟩
    unfold B__law_turned encB
    rw [List.map_append, List.map_append, List.map_take, List.map_drop]
    walk_at "y*"
    rfl
  · have m2 : ∀ x, mulOk 2 x = true := fun x => mulOk_l (by decide) (by decide)
    refine fin _ (swap_ok h ht (u := (t.1, 2 * t.2.1, 2 * t.2.2)) rfl ⟨f0, f1, by dsimp only; omega, by dsimp only; omega, by dsimp only; omega, by dsimp only; omega⟩) ⟨[], ?_⟩
    unfold B__law_turned encB
    rw [List.map_append, List.map_append, List.map_take, List.map_drop]
    walk_at "y*"
    rfl
  · obtain ⟨cap, hc, hcap⟩ : ∃ cap, atI [D.non, D.int 9, D.int 12] (mixv ds (fst + 2) 3) = some (encO cap) ∧ ∀ c, cap = some c → 0 ≤ c ∧ c ≤ 1000000 := by
      have : mixv ds (fst + 2) 3 = 0 ∨ mixv ds (fst + 2) 3 = 1 ∨ mixv ds (fst + 2) 3 = 2 := by omega
      rcases this with e | e | e <;> rw [e]
      · exact ⟨none, r_at0, fun c h => (nomatch h)⟩
      · exact ⟨some 9, r_at1, fun c h => by cases h; decide⟩
      · exact ⟨some 12, r_at2, fun c h => by cases h; decide⟩
    refine fin ⟨b.base, b.tiers, cap⟩ (bk_same h ⟨h.b0, h.b1⟩ rfl h.tk hcap) ⟨[], ?_⟩
    unfold B__law_turned encB
    walk_at "y*"
  · by_cases g : (n : Int) = (b.tiers.length : Int) - 1 ∧ (b.tiers.length : Int) < 5
    · have mu : ∀ x, mulOk t.2.1 x = true := fun x => mulOk_l (by omega) (by omega)
      have hprod : t.2.1 * 1 ≤ t.2.1 * (1 + mixv ds (fst + 2) 4) := Int.mul_le_mul_of_nonneg_left (by omega) (by omega)
      have hprod2 : t.2.1 * (1 + mixv ds (fst + 2) 4) ≤ t.2.1 * 4 := Int.mul_le_mul_of_nonneg_left (by omega) (by omega)
      generalize hgen : t.2.1 * (1 + mixv ds (fst + 2) 4) = step at hprod hprod2
      have g5' : decide ((n : Int) = (b.tiers.length : Int) - 1) = true := decide_eq_true g.1
      have g6' : ((b.tiers.length : Int) < 5) = True := eq_true g.2
      have below : ∀ x ∈ b.tiers, x.1 ≤ t.1 := by
        intro x hx
        obtain ⟨j, hj⟩ := List.getElem?_of_mem hx
        have hjl := (List.getElem?_eq_some_iff.mp hj).1
        by_cases e : j = n
        · subst e
          rw [ht] at hj
          cases hj
          exact Int.le_refl _
        · have hj2 : (b.tiers.map (·.1))[j]? = some x.1 := by rw [List.getElem?_map, hj]; rfl
          have ht2 : (b.tiers.map (·.1))[n]? = some t.1 := by rw [List.getElem?_map, ht]; rfl
          have hpw := asc_pw h.as
          obtain ⟨h1, e1⟩ := List.getElem?_eq_some_iff.mp hj2
          obtain ⟨h2, e2⟩ := List.getElem?_eq_some_iff.mp ht2
          have := List.pairwise_iff_getElem.mp hpw j n h1 h2 (by omega)
          rw [e1, e2] at this
          omega
      have ok2 : BkOk ⟨b.base, b.tiers ++ [(t.1 + step, t.2.1, t.2.2)], b.cap⟩ := by
        refine ⟨h.b0, h.b1, fun x hx => ?_, by simp, by show (b.tiers ++ [_]).length ≤ 5; simp; omega, fun a r z => ?_, asc_snoc h.as fun x hx => by have := below x hx; dsimp only; omega, h.cp⟩
        · rcases List.mem_append.mp hx with hx | hx
          · exact h.tk x hx
          · rw [List.mem_singleton] at hx
            subst hx
            exact ⟨by dsimp only; omega, by dsimp only; omega, u0, ok.u1, p0, ok.p1⟩
        · cases hb2 : b.tiers with
          | nil => exact absurd hb2 h.ne
          | cons a' r' =>
            change b.tiers ++ _ = _ at z
            rw [hb2] at z
            have := (List.cons.inj z).1
            rw [← this]
            exact h.fz a' r' hb2
      refine fin _ ok2 ⟨[], ?_⟩
      unfold B__law_turned encB
      rw [List.map_append]
      clear hn g
      walk_at "y*"
      rfl
    · exact bookE (by decide) (by decide) (by decide) (by decide) (by decide) fun _ => g
  · refine fin ⟨b.base, b.tiers, b.cap⟩ h ⟨[], ?_⟩
    unfold B__law_turned encB
    walk_at "y*"
  · exact bookE (by decide) (by decide) (by decide) (by decide) (by decide) fun z => absurd z (by decide)
theorem sho_Bk {b : Bk} (h : BkOk b) : Sho 3 1908 (encB b) := by
  have hO : Sho 0 41 (encO b.cap) := by
    cases hc : b.cap with
    | none => exact sho_non
    | some c =>
      have := h.cp c hc
      exact sho_int (by omega)
  have hT : ∀ d ∈ b.tiers.map encT, Sho 1 126 d := by
    intro d hd
    obtain ⟨t, ht, rfl⟩ := List.mem_map.mp hd
    have ok := h.tk t ht
    have := ok.f0; have := ok.f1; have := ok.u0; have := ok.u1; have := ok.p0; have := ok.p1
    refine sho_tup (h := 0) (w := 41) (n := 3) (ds := [.int t.1, .int t.2.1, .int t.2.2]) ?_ (Nat.le_refl _)
    intro d hd
    simp only [List.mem_cons, List.not_mem_nil, or_false] at hd
    rcases hd with rfl | rfl | rfl <;> exact sho_int (by omega)
  have hL := sho_lst hT (by rw [List.length_map]; exact h.ln)
  have hb := h.b0
  have hb1 := h.b1
  refine sho_tup (h := 2) (w := 635) (n := 3) (ds := [.int b.base, .lst (b.tiers.map encT), encO b.cap]) ?_ (Nat.le_refl _)
  intro d hd
  simp only [List.mem_cons, List.not_mem_nil, or_false] at hd
  rcases hd with rfl | rfl | rfl
  · exact (sho_int (by omega)).up (by decide) (by decide)
  · exact hL.up (by decide) (by decide)
  · exact hO.up (by decide) (by decide)
theorem sho_B {b : Bk} (h : BkOk b) : showOk (encB b) = true := (sho_Bk h).ok (by decide) (by decide)
def PredW (w : Int) (b1 b2 : Bk) (l : Int) : Prop := if w = 0 then Dearer b1 b2 l else Unlike b1 b2 l
def predB (w : Int) (b1 b2 : Bk) (l : Int) : Bool := if w = 0 then decide (fareL b2 l < fareL b1 l) else !decide (fareL b1 l = fareL b2 l)
theorem predB_iff {w : Int} {b1 b2 : Bk} {l : Int} : predB w b1 b2 l = true ↔ PredW w b1 b2 l := by
  unfold predB PredW Dearer Unlike
  by_cases h : w = 0
  · rw [if_pos h, if_pos h, decide_eq_true_eq]
  · rw [if_neg h, if_neg h]
    simp
def dueO (w : Int) (b1 b2 : Bk) : Option Int := (rngI 0 501).findSome? fun l => if predB w b1 b2 l = true then some l else none
theorem run_first501 {b1 b2 : Bk} (h1 : BkOk b1) (h2 : BkOk b2) {w : Int} (hw : w = 0 ∨ w = 1) : f__law_first [encB b1, encB b2, .int w] = some (encO (dueO w b1 b2)) := by
  have p1 := pure_encB b1
  have p2 := pure_encB b2
  have loop : ∀ ρ, (∃ a3 a4 a5 : Option D, ρ = [some (encB b1), some (encB b2), some (.int w), a3, a4, a5]) →
      ((rngI 0 501).findSome? (fun l => (if predB w b1 b2 l = true then some l else none).map D.int) = none → ∃ ρ1, forGo (gN 3) (sSeq (sAsg (eCall f__law_fare (aCons (eVar 0) (aCons (eVar 3) (aNil)))) (gN 4)) (sSeq (sAsg (eCall f__law_fare (aCons (eVar 1) (aCons (eVar 3) (aNil)))) (gN 5)) (sIf (bOr (bAnd (bTest (eBin oEq (eVar 2) (eC (.int 0)))) (bTest (eBin oGt (eVar 4) (eVar 5)))) (bAnd (bTest (eBin oEq (eVar 2) (eC (.int 1)))) (bTest (eBin oNe (eVar 4) (eVar 5))))) (sRet (eVar 3)) (sNext)))) none ((rngI 0 501).map .int) ρ [] = some (.nx ρ1, []) ∧ ∃ a3 a4 a5 : Option D, ρ1 = [some (encB b1), some (encB b2), some (.int w), a3, a4, a5]) ∧
      ∀ d, (rngI 0 501).findSome? (fun l => (if predB w b1 b2 l = true then some l else none).map D.int) = some d → forGo (gN 3) (sSeq (sAsg (eCall f__law_fare (aCons (eVar 0) (aCons (eVar 3) (aNil)))) (gN 4)) (sSeq (sAsg (eCall f__law_fare (aCons (eVar 1) (aCons (eVar 3) (aNil)))) (gN 5)) (sIf (bOr (bAnd (bTest (eBin oEq (eVar 2) (eC (.int 0)))) (bTest (eBin oGt (eVar 4) (eVar 5)))) (bAnd (bTest (eBin oEq (eVar 2) (eC (.int 1)))) (bTest (eBin oNe (eVar 4) (eVar 5))))) (sRet (eVar 3)) (sNext)))) none ((rngI 0 501).map .int) ρ [] = some (.rt d, []) := by
    refine forGo_fs _ ?_
    rintro l _ ρ ⟨a3, a4, a5, rfl⟩
    have f1 := run_lfare h1 l
    have f2 := run_lfare h2 l
    have tE : turn (gN 3) (sSeq (sAsg (eCall f__law_fare (aCons (eVar 0) (aCons (eVar 3) (aNil)))) (gN 4)) (sSeq (sAsg (eCall f__law_fare (aCons (eVar 1) (aCons (eVar 3) (aNil)))) (gN 5)) (sIf (bOr (bAnd (bTest (eBin oEq (eVar 2) (eC (.int 0)))) (bTest (eBin oGt (eVar 4) (eVar 5)))) (bAnd (bTest (eBin oEq (eVar 2) (eC (.int 1)))) (bTest (eBin oNe (eVar 4) (eVar 5))))) (sRet (eVar 3)) (sNext)))) (.int l) [some (encB b1), some (encB b2), some (.int w), a3, a4, a5] [] = if predB w b1 b2 l = true then some (.rt (.int l), []) else some (.nx [some (encB b1), some (encB b2), some (.int w), some (.int l), some (.int (fareL b1 l)), some (.int (fareL b2 l))], []) := by
      unfold predB
      rcases hw with rfl | rfl
      · by_cases g : fareL b2 l < fareL b1 l
        · walk_at "y*"
        · walk_at "y*"
      · by_cases g : fareL b1 l = fareL b2 l
        · walk_at "y*"
        · walk_at "y*"
    rw [tE]
    by_cases g : predB w b1 b2 l = true
    · rw [if_pos g, if_pos g]
      exact ⟨fun e => (nomatch e), fun d e => by cases e; rfl⟩
    · rw [if_neg g, if_neg g]
      exact ⟨fun _ => ⟨_, rfl, _, _, _, rfl⟩, fun d e => (nomatch e)⟩
  have hd : (dueO w b1 b2).map D.int = (rngI 0 501).findSome? (fun l => (if predB w b1 b2 l = true then some l else none).map D.int) := by
    unfold dueO
    rw [List.map_findSome?]
    rfl
  obtain ⟨n1, n2⟩ := loop _ ⟨none, none, none, rfl⟩
  rw [← hd] at n1 n2
  refine runP_rt (M := []) (d := encO (dueO w b1 b2)) ?_ (fz1_pure (pure_encO _))
  unfold B__law_first
  cases hl : dueO w b1 b2 with
  | none =>
    rw [hl] at n1
    obtain ⟨ρ1, e, a3, a4, a5, rfl⟩ := n1 rfl
    rw [← rngD_I] at e
    walk_at "y*"
    rfl
  | some p =>
    rw [hl] at n2
    have e := n2 _ rfl
    rw [← rngD_I] at e
    walk_at "y*"
    rfl
theorem due_none {w : Int} {b1 b2 : Bk} (h : dueO w b1 b2 = none) {l : Int} (h0 : 0 ≤ l) (h1 : l ≤ 500) : ¬ PredW w b1 b2 l := by
  unfold dueO at h
  have := fs_none h h0 (by omega)
  intro g
  rw [if_pos (predB_iff.mpr g)] at this
  cases this
theorem due_some {w : Int} {b1 b2 : Bk} {d : Int} (h : dueO w b1 b2 = some d) : LeastZ (PredW w b1 b2) (some d) := by
  unfold dueO at h
  obtain ⟨x, h0, h1, h2, h3⟩ := fs_some h
  by_cases g : predB w b1 b2 x = true
  · rw [if_pos g] at h2
    cases h2
    refine ⟨h0, predB_iff.mp g, fun l hl hx z => ?_⟩
    have := h3 l hl hx
    rw [if_pos (predB_iff.mpr z)] at this
    cases this
  · rw [if_neg g] at h2
    cases h2
theorem run_told {b1 b2 : Bk} (h1 : BkOk b1) (h2 : BkOk b2) {w : Int} (hw : w = 0 ∨ w = 1) {r : Option Int} (hr : LeastZ (PredW w b1 b2) r) : f__law_is_told [encO r, encO (dueO w b1 b2), encB b1, encB b2, .int w] = some (.bl true) := by
  refine runP_rt (M := []) (d := .bl true) ?_ (fz1_pure rfl)
  have p1 := pure_encB b1
  have p2 := pure_encB b2
  unfold B__law_is_told
  cases hd : dueO w b1 b2 with
  | some d =>
    have e := leastZ_one hr (due_some hd)
    subst e
    unfold encO
    walk_at "y*"
  | none =>
    cases r with
    | none =>
      unfold encO
      walk_at "y*"
    | some x =>
      obtain ⟨g1, g2, _⟩ := hr
      have hx : ¬ x ≤ 500 := fun z => due_none hd g1 z g2
      have f1 := run_lfare h1 x
      have f2 := run_lfare h2 x
      unfold encO
      unfold PredW Dearer Unlike at g2
      rcases hw with rfl | rfl
      · rw [if_pos rfl] at g2
        walk_at "y*"
      · rw [if_neg (by decide)] at g2
        walk_at "y*"
theorem sho_BB {b1 b2 : Bk} (h1 : BkOk b1) (h2 : BkOk b2) : showOk (.tup [encB b1, encB b2]) = true := by
  refine (sho_tup (h := 3) (w := 1908) (n := 2) (ds := [encB b1, encB b2]) ?_ (Nat.le_refl _)).ok (by decide) (by decide)
  intro d hd
  simp only [List.mem_cons, List.not_mem_nil, or_false] at hd
  rcases hd with rfl | rfl
  · exact sho_Bk h1
  · exact sho_Bk h2
theorem self_none {b : Bk} : LeastZ (Dearer b b) none ∧ LeastZ (Unlike b b) none := ⟨fun l _ h => by unfold Dearer at h; omega, fun l _ h => h rfl⟩
theorem plain : Plain := by
  intro ns _
  obtain ⟨ds, hd⟩ := run_draws ns
  have pn := pure_ints (ns := ns)
  have pd := pure_encI ds
  have q3 := fun k => run_mix ds k (many := 3) (by decide)
  have l1 := mix_lim ds 1 (many := 3) (by decide)
  obtain ⟨kind, hkx, hk⟩ : ∃ kind, atI [D.int 0, D.int 0, D.int 1] (mixv ds 1 3) = some (.int kind) ∧ (kind = 0 ∨ kind = 1) := by
    have : mixv ds 1 3 = 0 ∨ mixv ds 1 3 = 1 ∨ mixv ds 1 3 = 2 := by omega
    rcases this with e | e | e <;> rw [e]
    · exact ⟨0, r_at0, .inl rfl⟩
    · exact ⟨0, r_at1, .inl rfl⟩
    · exact ⟨1, r_at2, .inr rfl⟩
  obtain ⟨b1, hb1, ok1, s1, s2⟩ := law_book_small ds 10 kind hk
  obtain ⟨b2, hb2, ok2⟩ := run_turned ok1 s1 s2 ds 100
  have pb1 := pure_encB b1
  have pb2 := pure_encB b2
  have sh := sho_BB ok1 ok2
  -- the three pairs
  have both : ∀ x y : Bk, BkOk x → BkOk y → ∃ r u, f_first_dearer [encB x, encB y] = some (encO r) ∧ f_first_unlike [encB x, encB y] = some (encO u) ∧ f__law_is_told [encO r, encO (dueO 0 x y), encB x, encB y, .int 0] = some (.bl true) ∧ f__law_is_told [encO u, encO (dueO 1 x y), encB x, encB y, .int 1] = some (.bl true) ∧
      f__law_first [encB x, encB y, .int 0] = some (encO (dueO 0 x y)) ∧ f__law_first [encB x, encB y, .int 1] = some (encO (dueO 1 x y)) ∧ pureD (encO r) = true ∧ pureD (encO u) = true ∧ pureD (encO (dueO 0 x y)) = true ∧ pureD (encO (dueO 1 x y)) = true := by
    intro x y hx hy
    obtain ⟨r, e1, g1⟩ := run_fdearer hx hy
    obtain ⟨u, e2, g2⟩ := run_funlike hx hy
    exact ⟨r, u, e1, e2, run_told hx hy (.inl rfl) g1, run_told hx hy (.inr rfl) g2, run_first501 hx hy (.inl rfl), run_first501 hx hy (.inr rfl), pure_encO _, pure_encO _, pure_encO _, pure_encO _⟩
  obtain ⟨r1, u1, a1, a2, a3, a4, a5, a6, a7, a8, a9, a10⟩ := both b1 b2 ok1 ok2
  obtain ⟨r2, u2, c1, c2, c3, c4, c5, c6, c7, c8, c9, c10⟩ := both b2 b1 ok2 ok1
  obtain ⟨r3, u3, d1, d2, d3, d4, d5, d6, d7, d8, d9, d10⟩ := both b1 b1 ok1 ok1
  have e3 : r3 = none := by
    obtain ⟨r, e, g⟩ := run_fdearer ok1 ok1
    have := leastZ_one g self_none.1
    subst this
    rw [e] at d1
    cases r3 with
    | none => rfl
    | some x => cases d1
  have e4 : f_first_unlike [encB b2, encB b2] = some .non := by
    obtain ⟨r, e, g⟩ := run_funlike ok2 ok2
    have := leastZ_one g self_none.2
    subst this
    exact e
  subst e3
  rw [encO_n] at d1 d3 d7
  refine ⟨[], ?_⟩
  unfold B_law
  walk_at "y*"
end Y
open PySem PySem.W PyProof.Rows
set_option maxRecDepth 100000 in
set_option maxHeartbeats 0 in
theorem PySem.Challenge.cw_kerbcall_k79_where_books_are_dearer_holds : PySem.Challenge.rw_kerbcall_k79_where_books_are_dearer.Holds := by
  w_on; o_law; k_head; (case hw => w_witness2)
  k_fill
  refine Y.walk (l := PySem.Challenge.rw_kerbcall_k79_where_books_are_dearer) Y.plain rfl rfl ⟨rfl, by decide, by decide⟩ (fun w h Y => PySem.W.kIn_of Y) ?F
  case F =>
    intro w mg fa h KX G hmg
    refine' Y.all_mk KX G hmg ?ns_Piece ?at0 ?lk0 ?co0 ?kp0 ?at1 ?lk1 ?co1 ?kp1 ?at2 ?lk2 ?co2 ?kp2 ?at3 ?is3 ?lk3 ?co3 ?kp3 ?at4 ?lk4 ?co4 ?kp4 ?at5 ?is5 ?lk5 ?co5 ?kp5 ?at6 ?lk6 ?co6 ?kp6 ?at7 ?lk7 ?co7 ?kp7 ?at8 ?lk8 ?co8 ?kp8 ?at9 ?lk9 ?co9 ?kp9 ?at10 ?lk10 ?co10 ?kp10 ?at11 ?lk11 ?co11 ?kp11 ?at12 ?lk12 ?co12 ?kp12 ?at13 ?lk13 ?co13 ?kp13 ?at14 ?lk14 ?co14 ?kp14 ?at15 ?lk15 ?co15 ?kp15 ?at16 ?lk16 ?co16 ?kp16 ?at17 ?lk17 ?co17 ?kp17 ?at18 ?lk18 ?co18 ?kp18 ?at19 ?lk19 ?co19 ?kp19 ?at20 ?lk20 ?co20 ?kp20 ?at21 ?lk21 ?co21 ?kp21 ?at22 ?lk22 ?co22 ?kp22 ?z_abs ?z_all ?z_bool ?z_enumerate ?z_int ?z_isinstance ?z_len ?z_list ?z_min ?z_range ?z_repr ?z_sorted ?z_zip ?k_MOST_BASE ?k_MOST_CAP ?k_MOST_FIRST ?k_MOST_PRICE ?k_MOST_TIERS ?k_MOST_UNIT ?i_lcm ?pg_Piece ?hd_Piece ?po_Piece ?sa_Piece ?ma_Piece ?kc_Piece ?n_Piece_base ?n_Piece_first ?n_Piece_price ?n_Piece_start ?n_Piece_stop ?n_Piece_unit
    (case ns_Piece => k_is)
    (case at0 => k_is)
    (case lk0 => k_is)
    (case co0 => k_is)
    (case kp0 => k_is)
    (case at1 => k_is)
    (case lk1 => k_is)
    (case co1 => k_is)
    (case kp1 => k_is)
    (case at2 => k_is)
    (case lk2 => k_is)
    (case co2 => k_is)
    (case kp2 => k_is)
    (case at3 => k_is)
    (case is3 => k_is)
    (case lk3 => k_is)
    (case co3 => k_is)
    (case kp3 => k_is)
    (case at4 => k_is)
    (case lk4 => k_is)
    (case co4 => k_is)
    (case kp4 => k_is)
    (case at5 => k_is)
    (case is5 => k_is)
    (case lk5 => k_is)
    (case co5 => k_is)
    (case kp5 => k_is)
    (case at6 => k_is)
    (case lk6 => k_is)
    (case co6 => k_is)
    (case kp6 => k_is)
    (case at7 => k_is)
    (case lk7 => k_is)
    (case co7 => k_is)
    (case kp7 => k_is)
    (case at8 => k_is)
    (case lk8 => k_is)
    (case co8 => k_is)
    (case kp8 => k_is)
    (case at9 => k_is)
    (case lk9 => k_is)
    (case co9 => k_is)
    (case kp9 => k_is)
    (case at10 => k_is)
    (case lk10 => k_is)
    (case co10 => k_is)
    (case kp10 => k_is)
    (case at11 => k_is)
    (case lk11 => k_is)
    (case co11 => k_is)
    (case kp11 => k_is)
    (case at12 => k_is)
    (case lk12 => k_is)
    (case co12 => k_is)
    (case kp12 => k_is)
    (case at13 => k_is)
    (case lk13 => k_is)
    (case co13 => k_is)
    (case kp13 => k_is)
    (case at14 => k_is)
    (case lk14 => k_is)
    (case co14 => k_is)
    (case kp14 => k_is)
    (case at15 => k_is)
    (case lk15 => k_is)
    (case co15 => k_is)
    (case kp15 => k_is)
    (case at16 => k_is)
    (case lk16 => k_is)
    (case co16 => k_is)
    (case kp16 => k_is)
    (case at17 => k_is)
    (case lk17 => k_is)
    (case co17 => k_is)
    (case kp17 => k_is)
    (case at18 => k_is)
    (case lk18 => k_is)
    (case co18 => k_is)
    (case kp18 => k_is)
    (case at19 => k_is)
    (case lk19 => k_is)
    (case co19 => k_is)
    (case kp19 => k_is)
    (case at20 => k_is)
    (case lk20 => k_is)
    (case co20 => k_is)
    (case kp20 => k_is)
    (case at21 => k_is)
    (case lk21 => k_is)
    (case co21 => k_is)
    (case kp21 => k_is)
    (case at22 => k_is)
    (case lk22 => k_is)
    (case co22 => k_is)
    (case kp22 => k_is)
    (case z_abs => k_is)
    (case z_all => k_is)
    (case z_bool => k_is)
    (case z_enumerate => k_is)
    (case z_int => k_is)
    (case z_isinstance => k_is)
    (case z_len => k_is)
    (case z_list => k_is)
    (case z_min => k_is)
    (case z_range => k_is)
    (case z_repr => k_is)
    (case z_sorted => k_is)
    (case z_zip => k_is)
    (case k_MOST_BASE => k_is)
    (case k_MOST_CAP => k_is)
    (case k_MOST_FIRST => k_is)
    (case k_MOST_PRICE => k_is)
    (case k_MOST_TIERS => k_is)
    (case k_MOST_UNIT => k_is)
    (case i_lcm => k_is)
    (case pg_Piece => k_is)
    (case hd_Piece => k_is)
    (case po_Piece => k_is)
    (case sa_Piece => k_is)
    (case ma_Piece => k_is)
    (case kc_Piece => k_is)
    (case n_Piece_base => k_is)
    (case n_Piece_first => k_is)
    (case n_Piece_price => k_is)
    (case n_Piece_start => k_is)
    (case n_Piece_stop => k_is)
    (case n_Piece_unit => k_is)
