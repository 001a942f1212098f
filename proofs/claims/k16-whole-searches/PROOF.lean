import PyProof.Rows.All
import Wide.All
import OpenK.AllK
import Wide.FinOn
import HandS.ForMost
import HandS.IsInst
import HandS.TupLe
import HandS.TupAny
import HandS.Flow
import HandS.Style
import HandS.Exc
import HandS.TryOnly
import HandS.DictComp
import KE.KDictKeyed
import KE.KDictWalk
import KE.KeyNested
import KE.SortData
import KE.DataMinMax
import KE.LtData
import KE.KDictPairs
import KE.KDictSum
import KE.GoesMore
import HandS.SetFor
import HandS.Strs
import PySem.Challenge.RW_fateboards_k16_whole_searches
set_option Elab.async false
set_option linter.all false
set_option maxRecDepth 100000
set_option maxHeartbeats 4000000
/-! VLa: immutable data (NestedKey) over the abstract heap: the relation, what keeps it, its readings. -/
namespace VL
open PySem L2
abbrev D := NestedKey

/-- tuples stay -/
def TKeep (K : PySem.W.Frag) (H H' : Hp) : Prop := ∀ b xs, SqT K H b xs → SqT K H' b xs
theorem TKeep.refl (K : PySem.W.Frag) (H : Hp) : TKeep K H H := fun _ _ h => h
theorem TKeep.trans {K : PySem.W.Frag} {H H1 H2 : Hp} (a : TKeep K H H1) (b : TKeep K H1 H2) : TKeep K H H2 := fun c xs h => b c xs (a c xs h)
theorem Same.tk {K : PySem.W.Frag} {H H' : Hp} (s : Same H H') : TKeep K H H' := fun b xs h => by
  rcases h with (h | ⟨o, h⟩) | h
  · exact .inl (.inl (s _ _ h))
  · exact .inl (.inr ⟨o, s _ _ h⟩)
  · exact .inr h
/-- neither a tuple nor a locked one stands at a -/
def NoTup : Option HO → Prop
  | some (.tup _) => False
  | some (.frz _ _) => False
  | _ => True
theorem TKeep.upd {K : PySem.W.Frag} {H : Hp} {a : Addr} {o : HO} (n : NoTup (H a)) : TKeep K H (upd H a o) := fun b xs h => by
  rcases h with (h | ⟨u, h⟩) | h
  · refine .inl (.inl ?_)
    rw [upd_ne]
    · exact h
    · rintro rfl
      rw [h] at n
      exact n
  · refine .inl (.inr ⟨u, ?_⟩)
    rw [upd_ne]
    · exact h
    · rintro rfl
      rw [h] at n
      exact n
  · exact .inr h

abbrev dats (ds : List D) : List PyData := NestedKey.datas ds
theorem dats_nil : NestedKey.datas [] = [] := by simp only [NestedKey.datas]
theorem dats_cons (d : D) (ds : List D) : NestedKey.datas (d :: ds) = d.data :: NestedKey.datas ds := by simp only [NestedKey.datas]
theorem dats_map : ∀ ds : List D, NestedKey.datas ds = ds.map NestedKey.data
  | [] => dats_nil
  | d :: ds => by rw [dats_cons, dats_map ds, List.map_cons]
theorem dats_append (a b : List D) : NestedKey.datas (a ++ b) = NestedKey.datas a ++ NestedKey.datas b := by
  rw [dats_map, dats_map, dats_map, List.map_append]

mutual
theorem dp_keep {K : PySem.W.Frag} {H H' : Hp} (k : TKeep K H H') : ∀ (d : D) (v : V), Dp K H v d.data → Dp K H' v d.data
  | .none, v, h => by
    simp only [NestedKey.data] at h ⊢
    cases h
    exact .non
  | .num i, v, h => by
    simp only [NestedKey.data] at h ⊢
    cases h
    exact .int i
  | .text x, v, h => by
    simp only [NestedKey.data] at h ⊢
    cases h
    exact .str x
  | .tup ks, v, h => by
    simp only [NestedKey.data] at h ⊢
    cases h with
    | tup h1 h2 => exact .tup (k _ _ h1) (dps_keep k ks _ h2)
theorem dps_keep {K : PySem.W.Frag} {H H' : Hp} (k : TKeep K H H') : ∀ (ds : List D) (vs : List V), DpAll K H vs (NestedKey.datas ds) → DpAll K H' vs (NestedKey.datas ds)
  | [], vs, h => by
    rw [dats_nil] at h ⊢
    cases h
    exact .nil
  | d :: ds, vs, h => by
    rw [dats_cons] at h ⊢
    cases h with
    | cons h1 h2 => exact .cons (dp_keep k d _ h1) (dps_keep k ds _ h2)
end

section
variable {X : Cx} {pins : List (Addr × Obj)} {σ : St} {H : Hp} {s : Shared}
mutual
theorem dp_nested (I : Inv X pins σ H s) : ∀ (d : D) (v : V) (u : Value), Dp X.K H v d.data → RelV v u → NestedIs s.heap d u
  | .none, v, u, h, r => by
    simp only [NestedKey.data] at h
    cases h
    cases r
    exact .none
  | .num i, v, u, h, r => by
    simp only [NestedKey.data] at h
    cases h
    obtain ⟨t, rfl⟩ := r
    exact .int i t
  | .text x, v, u, h, r => by
    simp only [NestedKey.data] at h
    cases h
    obtain ⟨t, rfl⟩ := r
    exact .text x t
  | .tup ks, v, u, h, r => by
    simp only [NestedKey.data] at h
    cases h with
    | tup h1 h2 =>
      cases r
      obtain ⟨its, rv, ⟨o, ho, hc, n, hd⟩, _⟩ := I.tuple h1
      exact .tup ho hc hd (by simpa using dps_nested I ks _ its h2 rv)
theorem dps_nested (I : Inv X pins σ H s) : ∀ (ds : List D) (vs : List V) (us : List Value), DpAll X.K H vs (NestedKey.datas ds) → Vals vs us → NestedAll s.heap ds us
  | [], vs, us, h, r => by
    rw [dats_nil] at h
    cases h
    cases r
    exact .nil
  | d :: ds, vs, us, h, r => by
    rw [dats_cons] at h
    cases h with
    | cons h1 h2 =>
      cases r with
      | cons r1 r2 => exact .cons (dp_nested I d _ _ h1 r1) (dps_nested I ds _ _ h2 r2)
end
end

/-! ### data is told apart by what it is -/
theorem beq_dec' {α : Type} [BEq α] [LawfulBEq α] [DecidableEq α] (a b : α) : (a == b) = decide (a = b) := by
  rw [Bool.eq_iff_iff, beq_iff_eq, decide_eq_true_eq]
mutual
theorem eqv_data : ∀ a b : D, PyData.eqv a.data b.data = NestedKey.beq a b
  | .none, .none => by simp only [NestedKey.data, PyData.eqv, NestedKey.beq]
  | .num a, .num b => by simp only [NestedKey.data, PyData.eqv, NestedKey.beq]; exact beq_dec' a b
  | .text a, .text b => by simp only [NestedKey.data, PyData.eqv, NestedKey.beq]; exact beq_dec' a b
  | .tup a, .tup b => by simp only [NestedKey.data, PyData.eqv, NestedKey.beq]; exact eqv_datas a b
  | .none, .num _ | .none, .text _ | .none, .tup _ => by simp only [NestedKey.data, PyData.eqv, NestedKey.beq]
  | .num _, .none | .num _, .text _ | .num _, .tup _ => by simp only [NestedKey.data, PyData.eqv, NestedKey.beq]
  | .text _, .none | .text _, .num _ | .text _, .tup _ => by simp only [NestedKey.data, PyData.eqv, NestedKey.beq]
  | .tup _, .none | .tup _, .num _ | .tup _, .text _ => by simp only [NestedKey.data, PyData.eqv, NestedKey.beq]
theorem eqv_datas : ∀ a b : List D, PyData.eqvAll (NestedKey.datas a) (NestedKey.datas b) = NestedKey.beqAll a b
  | [], [] => by simp only [NestedKey.datas, PyData.eqvAll, NestedKey.beqAll]
  | [], y :: ys => by simp only [NestedKey.datas, PyData.eqvAll, NestedKey.beqAll]
  | x :: xs, [] => by simp only [NestedKey.datas, PyData.eqvAll, NestedKey.beqAll]
  | x :: xs, y :: ys => by simp only [NestedKey.datas, PyData.eqvAll, NestedKey.beqAll]; rw [eqv_data x y, eqv_datas xs ys]
end
theorem eqv_dec (a b : D) : PyData.eqv a.data b.data = decide (a = b) := by rw [eqv_data, NestedKey.decide_eq]
theorem beqAll_dec (a b : List D) : NestedKey.beqAll a b = decide (a = b) := by
  cases h : NestedKey.beqAll a b with
  | true => exact (decide_eq_true (NestedKey.eq_of_beqAll a b h)).symm
  | false => exact (decide_eq_false fun e => by rw [e, NestedKey.beqAll_self] at h; cases h).symm
theorem eqvs_dec (a b : List D) : PyData.eqvAll (NestedKey.datas a) (NestedKey.datas b) = decide (a = b) := by rw [eqv_datas, beqAll_dec]

/-! ### depth, shape -/
mutual
theorem depth_data : ∀ d : D, d.data.depth = d.depth
  | .none => by simp only [NestedKey.data, PyData.depth, NestedKey.depth]
  | .num _ => by simp only [NestedKey.data, PyData.depth, NestedKey.depth]
  | .text _ => by simp only [NestedKey.data, PyData.depth, NestedKey.depth]
  | .tup ks => by simp only [NestedKey.data, PyData.depth, NestedKey.depth]; rw [depth_datas ks]
theorem depth_datas : ∀ ds : List D, PyData.depthAll (NestedKey.datas ds) = NestedKey.depthAll ds
  | [] => by simp only [NestedKey.datas, PyData.depthAll, NestedKey.depthAll]
  | d :: ds => by simp only [NestedKey.datas, PyData.depthAll, NestedKey.depthAll]; rw [depth_data d, depth_datas ds]
end

theorem can_of_mem {ds : List D} (h : PyData.canLayAll0 (NestedKey.datas ds) = true) {d : D} (m : d ∈ ds) : d.data.canLay0 = true := by
  rw [dats_map] at h
  exact PyData.canLay0_of_mem _ _ h (List.mem_map.mpr ⟨d, m, rfl⟩)
theorem can_all : ∀ {ds : List D}, (∀ d ∈ ds, d.data.canLay0 = true) → PyData.canLayAll0 (NestedKey.datas ds) = true
  | [], _ => by simp only [NestedKey.datas, PyData.canLayAll0]
  | d :: ds, h => by
    simp only [NestedKey.datas, PyData.canLayAll0]
    rw [h d List.mem_cons_self, can_all fun e m => h e (List.mem_cons_of_mem _ m)]
    rfl
theorem depth_mem : ∀ {ds : List D} {d : D}, d ∈ ds → d.depth ≤ NestedKey.depthAll ds
  | e :: ds, d, m => by
    simp only [NestedKey.depthAll]
    rcases List.mem_cons.mp m with rfl | m
    · exact Nat.le_max_left _ _
    · exact Nat.le_trans (depth_mem m) (Nat.le_max_right _ _)
theorem depth_all : ∀ {ds : List D} {n : Nat}, (∀ d ∈ ds, d.depth ≤ n) → NestedKey.depthAll ds ≤ n
  | [], n, _ => by simp only [NestedKey.depthAll]; exact Nat.zero_le _
  | d :: ds, n, h => by
    simp only [NestedKey.depthAll]
    exact Nat.max_le.mpr ⟨h d List.mem_cons_self, depth_all fun e m => h e (List.mem_cons_of_mem _ m)⟩

/-- v holds d, which is no deeper than 8 and can be laid -/
structure IV (K : PySem.W.Frag) (H : Hp) (v : V) (d : D) : Prop where
  dp : Dp K H v d.data
  dep : d.depth ≤ 8
  can : d.data.canLay0 = true
inductive IVs (K : PySem.W.Frag) (H : Hp) : List V → List D → Prop
  | nil : IVs K H [] []
  | cons {v : V} {vs : List V} {d : D} {ds : List D} : IV K H v d → IVs K H vs ds → IVs K H (v :: vs) (d :: ds)
section
variable {K : PySem.W.Frag} {H H' : Hp}
theorem IV.keep {v : V} {d : D} (k : TKeep K H H') (h : IV K H v d) : IV K H' v d := ⟨dp_keep k d v h.dp, h.dep, h.can⟩
theorem IVs.keep (k : TKeep K H H') : ∀ {vs : List V} {ds : List D}, IVs K H vs ds → IVs K H' vs ds
  | _, _, .nil => .nil
  | _, _, .cons a b => .cons (a.keep k) (IVs.keep k b)
theorem IVs.dps : ∀ {vs : List V} {ds : List D}, IVs K H vs ds → DpAll K H vs (NestedKey.datas ds)
  | _, _, .nil => by rw [dats_nil]; exact .nil
  | _, _, .cons a b => by rw [dats_cons]; exact .cons a.dp b.dps
theorem IVs.length : ∀ {vs : List V} {ds : List D}, IVs K H vs ds → vs.length = ds.length
  | _, _, .nil => rfl
  | _, _, .cons _ b => by rw [List.length_cons, List.length_cons, b.length]
theorem IVs.append : ∀ {vs ws : List V} {ds es : List D}, IVs K H vs ds → IVs K H ws es → IVs K H (vs ++ ws) (ds ++ es)
  | _, _, _, _, .nil, r => r
  | _, _, _, _, .cons a b, r => .cons a (b.append r)
theorem IVs.get : ∀ {vs : List V} {ds : List D} {i : Nat} {d : D}, IVs K H vs ds → ds[i]? = some d → ∃ v, vs[i]? = some v ∧ IV K H v d
  | _, _, _, _, .nil, e => by simp at e
  | _, _, 0, _, .cons a _, e => by simp at e; subst e; exact ⟨_, rfl, a⟩
  | _, _, i + 1, _, .cons _ b, e => by
    obtain ⟨v, h1, h2⟩ := b.get (i := i) (by simpa using e)
    exact ⟨v, by simpa using h1, h2⟩
theorem IVs.get' : ∀ {vs : List V} {ds : List D} {i : Nat} {v : V}, IVs K H vs ds → vs[i]? = some v → ∃ d, ds[i]? = some d ∧ IV K H v d
  | _, _, _, _, .nil, e => by simp at e
  | _, _, 0, _, .cons a _, e => by simp at e; subst e; exact ⟨_, rfl, a⟩
  | _, _, i + 1, _, .cons _ b, e => by
    obtain ⟨v, h1, h2⟩ := b.get' (i := i) (by simpa using e)
    exact ⟨v, by simpa using h1, h2⟩
theorem IVs.take : ∀ {vs : List V} {ds : List D} (n : Nat), IVs K H vs ds → IVs K H (vs.take n) (ds.take n)
  | _, _, 0, _ => by simp only [List.take_zero]; exact .nil
  | _, _, n + 1, .nil => by simp only [List.take_nil]; exact .nil
  | _, _, n + 1, .cons a b => .cons a (b.take n)
theorem IVs.drop : ∀ {vs : List V} {ds : List D} (n : Nat), IVs K H vs ds → IVs K H (vs.drop n) (ds.drop n)
  | _, _, 0, r => r
  | _, _, n + 1, .nil => by simp only [List.drop_nil]; exact .nil
  | _, _, n + 1, .cons a b => b.drop n
theorem IVs.deps : ∀ {vs : List V} {ds : List D}, IVs K H vs ds → NestedKey.depthAll ds ≤ 8
  | _, _, .nil => by simp only [NestedKey.depthAll]; exact Nat.zero_le _
  | _, _, .cons a b => by simp only [NestedKey.depthAll]; exact Nat.max_le.mpr ⟨a.dep, b.deps⟩
theorem IVs.cans : ∀ {vs : List V} {ds : List D}, IVs K H vs ds → PyData.canLayAll0 (NestedKey.datas ds) = true
  | _, _, .nil => by simp only [NestedKey.datas, PyData.canLayAll0]
  | _, _, .cons a b => by simp only [NestedKey.datas, PyData.canLayAll0]; rw [a.can, b.cans]; rfl
theorem IV.num {i : Int} : IV K H (.int i) (.num i) := ⟨by simp only [NestedKey.data]; exact .int i, by simp only [NestedKey.depth]; decide, by simp only [NestedKey.data, PyData.canLay0]⟩
theorem IV.non : IV K H .non .none := ⟨by simp only [NestedKey.data]; exact .non, by simp only [NestedKey.depth]; decide, by simp only [NestedKey.data, PyData.canLay0]⟩
theorem IV.of_num {v : V} {i : Int} (h : IV K H v (.num i)) : v = .int i := by
  have q := h.dp
  simp only [NestedKey.data] at q
  cases q
  rfl
theorem IV.of_none {v : V} (h : IV K H v .none) : v = .non := by
  have q := h.dp
  simp only [NestedKey.data] at q
  cases q
  rfl
theorem ivs_of : ∀ {vs : List V} {ds : List D}, DpAll K H vs (NestedKey.datas ds) → NestedKey.depthAll ds ≤ 8 → PyData.canLayAll0 (NestedKey.datas ds) = true → IVs K H vs ds
  | _, [], h, _, _ => by rw [dats_nil] at h; cases h; exact .nil
  | _, d :: ds, h, hd, hc => by
    rw [dats_cons] at h hc
    simp only [NestedKey.depthAll] at hd
    simp only [PyData.canLayAll0, Bool.and_eq_true] at hc
    cases h with
    | cons h1 h2 => exact .cons ⟨h1, Nat.le_trans (Nat.le_max_left _ _) hd, hc.1⟩ (ivs_of h2 (Nat.le_trans (Nat.le_max_right _ _) hd) hc.2)
theorem IV.of_tup {v : V} {ds : List D} (h : IV K H v (.tup ds)) : ∃ a xs, v = .ref a ∧ SqT K H a xs ∧ IVs K H xs ds := by
  obtain ⟨q, hd, hc⟩ := h
  simp only [NestedKey.data] at q hc
  simp only [NestedKey.depth] at hd
  simp only [PyData.canLay0] at hc
  cases q with
  | tup h1 h2 => exact ⟨_, _, rfl, h1, ivs_of h2 (by omega) hc⟩
theorem IV.tup {a : Addr} {xs : List V} {ds : List D} (h : SqT K H a xs) (hs : IVs K H xs ds) (hd : NestedKey.depthAll ds ≤ 7) : IV K H (.ref a) (.tup ds) :=
  ⟨by simp only [NestedKey.data]; exact .tup h hs.dps, by simp only [NestedKey.depth]; omega, by simp only [NestedKey.data, PyData.canLay0]; exact hs.cans⟩
theorem IV.shaped {v : V} {d : D} (h : IV K H v d) : SeqAt.shaped d.data = true := by
  unfold SeqAt.shaped
  rw [h.can, Bool.true_and, depth_data]
  have := h.dep
  exact decide_eq_true (by omega)
theorem IVs.shaped {vs : List V} {ds : List D} (h : IVs K H vs ds) : SeqAt.shaped (.list (NestedKey.datas ds)) = true := by
  have h1 := h.deps
  exact Bool.and_eq_true_iff.mpr ⟨by simp only [PyData.canLay0]; exact h.cans, decide_eq_true (by simp only [PyData.depth]; rw [depth_datas]; omega)⟩
end
end VL

set_option Elab.async false
set_option linter.all false
set_option maxRecDepth 100000
set_option maxHeartbeats 4000000
/-! VLb: the shadow of a frame: values without the heap; judgements over shadows. -/
namespace VL
open PySem L2

/-- what a dict's entry holds -/
inductive W where
  | k (d : D) | b (x : Bool)
  deriving DecidableEq
/-- a value of a slot, without the heap: immutable data, a truth value, a list of data, a dict from tuples, or whatever stands there -/
inductive U where
  | im (d : D) | bl (b : Bool) | ls (ds : List D) | dc (kvs : List (D × W)) | rw (v : V)
def mutU : U → Bool
  | .ls _ => true
  | .dc _ => true
  | _ => false
def WV (K : PySem.W.Frag) (H : Hp) (v : V) : W → Prop
  | .k d => IV K H v d
  | .b x => v = .bl x
abbrev obO (a : Addr) (o : Obj) : HO := .ext fun h => h.get? a = some o
def DEnt (K : PySem.W.Frag) (H : Hp) (kv : D × W) (x : D × Addr × Value) : Prop :=
  kv.1 = x.1 ∧ IV K H (.ref x.2.1) x.1 ∧ ∃ z, RelV z x.2.2 ∧ WV K H z kv.2
def DcAt (P : Program) (w : World) (K : PySem.W.Frag) (H : Hp) (a : Addr) (kvs : List (D × W)) : Prop :=
  (a == sysModules) = false ∧ kvs.length ≤ sizeLine ∧ ∃ (o : Obj) (es : Array DictEntry) (ep : Nat) (xs : List (D × Addr × Value)),
    H a = some (obO a o) ∧ o.ExactDict ∧ o.data = .dict es ep ∧ es.toList = xs.map (entryOfKey (nestedKind P w)) ∧ (xs.map (·.1)).Nodup ∧ Paired (DEnt K H) kvs xs
def UV (P : Program) (w : World) (K : PySem.W.Frag) (H : Hp) (v : V) : U → Prop
  | .im d => IV K H v d
  | .bl b => v = .bl b
  | .ls ds => ∃ a xs, v = .ref a ∧ H a = some (.lst xs) ∧ IVs K H xs ds
  | .dc kvs => ∃ a, v = .ref a ∧ DcAt P w K H a kvs
  | .rw z => v = z

section
variable {P : Program} {w : World} {K : PySem.W.Frag} {H H' : Hp}
theorem WV.keep (k : TKeep K H H') {v : V} : ∀ {u : W}, WV K H v u → WV K H' v u
  | .k d, h => IV.keep (d := d) k h
  | .b x, h => h
theorem DEnt.keep (k : TKeep K H H') {kv : D × W} {x : D × Addr × Value} (h : DEnt K H kv x) : DEnt K H' kv x := by
  obtain ⟨h1, h2, z, h3, h4⟩ := h
  exact ⟨h1, h2.keep k, z, h3, h4.keep k⟩
theorem DcAt.keep (k : TKeep K H H') {a : Addr} {kvs : List (D × W)} (h : DcAt P w K H a kvs) (e : ∀ o, H a = some o → H' a = some o) : DcAt P w K H' a kvs := by
  obtain ⟨h0, h1, o, es, ep, xs, h2, h3, h4, h5, h6, h7⟩ := h
  exact ⟨h0, h1, o, es, ep, xs, e _ h2, h3, h4, h5, h6, Paired.mapP h7 fun _ _ z => z.keep k⟩
/-- tuples stay, and what v itself stands for -/
theorem UV.keep (k : TKeep K H H') {v : V} {u : U} (h : UV P w K H v u) (e : mutU u = true → ∀ a, v = .ref a → ∀ o, H a = some o → H' a = some o) : UV P w K H' v u := by
  cases u with
  | im d => exact IV.keep k h
  | bl b => exact h
  | rw z => exact h
  | ls ds =>
    obtain ⟨a, xs, rfl, h1, h2⟩ := h
    exact ⟨a, xs, rfl, e rfl a rfl _ h1, h2.keep k⟩
  | dc kvs =>
    obtain ⟨a, rfl, h1⟩ := h
    exact ⟨a, rfl, h1.keep k (e rfl a rfl)⟩
theorem UV.same (k : Same H H') {v : V} {u : U} (h : UV P w K H v u) : UV P w K H' v u := h.keep (Same.tk k) fun _ a _ o q => k a o q
theorem UV.upd {v : V} {u : U} {a : Addr} {o : HO} (h : UV P w K H v u) (n : NoTup (H a)) (ne : mutU u = true → v ≠ .ref a) : UV P w K (upd H a o) v u :=
  h.keep (TKeep.upd n) fun m b e q hq => by
    rw [upd_ne]
    · exact hq
    · rintro rfl
      exact ne m e
/-- a mutable value stands at a tracked address that holds no tuple -/
theorem UV.at {v : V} {u : U} (h : UV P w K H v u) (m : mutU u = true) : ∃ a o, v = .ref a ∧ H a = some o ∧ NoTup (some o) := by
  cases u with
  | im d => cases m
  | bl b => cases m
  | rw z => cases m
  | ls ds =>
    obtain ⟨a, xs, rfl, h1, _⟩ := h
    exact ⟨a, _, rfl, h1, trivial⟩
  | dc kvs =>
    obtain ⟨a, rfl, _, _, o, _, _, _, h1, _⟩ := h
    exact ⟨a, _, rfl, h1, trivial⟩
end

abbrev Sh := List (Option U)
structure ShRel (P : Program) (w : World) (K : PySem.W.Frag) (H : Hp) (σ : St) (τ : Sh) : Prop where
  len : τ.length = σ.length
  get : ∀ (i : Nat) (u : U), τ[i]? = some (some u) → ∃ v, σ[i]? = some (some v) ∧ UV P w K H v u
/-- no two slots hold one mutable object -/
def NoAl (σ : St) (τ : Sh) : Prop := ∀ (i j : Nat) (u u' : U) (v : V), i ≠ j → τ[i]? = some (some u) → τ[j]? = some (some u') → mutU u = true → mutU u' = true → σ[i]? = some (some v) → σ[j]? = some (some v) → False
/-- the mutable ones of the slots O are younger than H0 -/
def Own (O : List Nat) (H0 : Hp) (σ : St) (τ : Sh) : Prop := ∀ (i : Nat) (u : U) (a : Addr), i ∈ O → τ[i]? = some (some u) → mutU u = true → σ[i]? = some (some (.ref a)) → H0 a = none
def Fr (H : Hp) (v : V) : Prop := ∃ a, v = .ref a ∧ H a = none
structure VI (P : Program) (w : World) (K : PySem.W.Frag) (O : List Nat) (H0 H : Hp) (σ : St) (τ : Sh) : Prop where
  len : τ.length = σ.length
  same : Same H0 H
  rel : ShRel P w K H σ τ
  noal : NoAl σ τ
  own : Own O H0 σ τ
section
variable {P : Program} {w : World} {K : PySem.W.Frag} {O : List Nat} {H0 H H' : Hp} {σ : St} {τ : Sh}
theorem ShRel.same (h : ShRel P w K H σ τ) (k : Same H H') : ShRel P w K H' σ τ := ⟨h.len, fun i u e => by
  obtain ⟨v, h1, h2⟩ := h.get i u e
  exact ⟨v, h1, h2.same k⟩⟩
theorem VI.sameR (h : VI P w K O H0 H σ τ) (k : Same H H') : VI P w K O H0 H' σ τ := ⟨h.len, h.same.trans k, h.rel.same k, h.noal, h.own⟩
end

/-! ### expressions -/
section
variable (X : Cx)
/-- v is new behind H, or what one of the slots al holds -/
def Frs (H : Hp) (σ : St) (τ : Sh) (al : List Nat) (v : V) (u : U) : Prop := mutU u = true → Fr H v ∨ ∃ j ∈ al, σ[j]? = some (some v) ∧ τ[j]? = some (some u)
def tV (f : Sh → Option U) (al : List Nat) : TE := fun σ H Q => ∃ τ u, ShRel X.prog X.w X.K H σ τ ∧ f τ = some u ∧ ∀ v H', Same H H' → UV X.prog X.w X.K H' v u → Frs H σ τ al v u → Q v H'
def tVT (f : Sh → Option Bool) : TT := fun σ H Q => ∃ τ b, ShRel X.prog X.w X.K H σ τ ∧ f τ = some b ∧ ∀ H', Same H H' → Q b H'
inductive UVs (P : Program) (w : World) (K : PySem.W.Frag) (H : Hp) : List V → List U → Prop
  | nil : UVs P w K H [] []
  | cons {v : V} {vs : List V} {u : U} {us : List U} : UV P w K H v u → UVs P w K H vs us → UVs P w K H (v :: vs) (u :: us)
def tVA (f : Sh → Option (List U)) : TA := fun σ H Q => ∃ τ us, ShRel X.prog X.w X.K H σ τ ∧ f τ = some us ∧ ∀ vs H', Same H H' → UVs X.prog X.w X.K H' vs us → Q vs H'
def EV (e : Expr) (f : Sh → Option U) (al : List Nat) : Prop := PE X e (tV X f al)
def TV (e : Expr) (f : Sh → Option Bool) : Prop := PT X e (tVT X f)
def AV (es : List Expr) (f : Sh → Option (List U)) : Prop := PA X es (tVA X f)
end
theorem UVs.same {P : Program} {w : World} {K : PySem.W.Frag} {H H' : Hp} (k : Same H H') : ∀ {vs : List V} {us : List U}, UVs P w K H vs us → UVs P w K H' vs us
  | _, _, .nil => .nil
  | _, _, .cons a b => .cons (a.same k) (UVs.same k b)
theorem UVs.length {P : Program} {w : World} {K : PySem.W.Frag} {H : Hp} : ∀ {vs : List V} {us : List U}, UVs P w K H vs us → vs.length = us.length
  | _, _, .nil => rfl
  | _, _, .cons _ b => by rw [List.length_cons, List.length_cons, b.length]

section
variable {X : Cx} {e a b c : Expr} {pos : Pos}
theorem pe_w {t t' : TE} (h : PE X e t) (k : ∀ σ H Q, t' σ H Q → t σ H Q) : PE X e t' := ⟨fun pins s σ H Q I q => h.run pins s σ H Q I (k σ H Q q)⟩
theorem pt_w {t t' : TT} (h : PT X e t) (k : ∀ σ H Q, t' σ H Q → t σ H Q) : PT X e t' := ⟨fun pins s σ H Q I q => h.run pins s σ H Q I (k σ H Q q)⟩
theorem pw_w {t t' : TT} (h : PW X e t) (k : ∀ σ H Q, t' σ H Q → t σ H Q) : PW X e t' := ⟨fun wh pins s σ H Q I q => h.run wh pins s σ H Q I (k σ H Q q)⟩
theorem pa_w {es : List Expr} {t t' : TA} (h : PA X es t) (k : ∀ σ H Q, t' σ H Q → t σ H Q) : PA X es t' := ⟨fun p pins s σ H Q I q => h.run p pins s σ H Q I (k σ H Q q)⟩
theorem ps_w {st : Stmt} {t t' : TS} (h : PS X st t) (k : ∀ D σ H, t' D σ H → t D σ H) : PS X st t' := ⟨fun pins s σ H D I q => h.run pins s σ H D I (k D σ H q)⟩
theorem pss_w {st : List Stmt} {t t' : TS} (h : PSs X st t) (k : ∀ D σ H, t' D σ H → t D σ H) : PSs X st t' := ⟨fun pins s σ H D I q => h.run pins s σ H D I (k D σ H q)⟩

/-! names, constants -/
def fVar (i : Nat) : Sh → Option U := fun τ => (τ[i]?).join
theorem join_some {τ : Sh} {i : Nat} {u : U} (h : fVar i τ = some u) : τ[i]? = some (some u) := by
  unfold fVar at h
  cases e : τ[i]? with
  | none => rw [e] at h; cases h
  | some x =>
    rw [e] at h
    cases x with
    | none => cases h
    | some y => cases h; rfl
theorem ev_var (i : Nat) (h : PE X e (tVar i)) : EV X e (fVar i) [i] := pe_w h fun σ H Q ⟨τ, u, hr, hf, q⟩ => by
  have e1 := join_some hf
  obtain ⟨v, h1, h2⟩ := hr.get i u e1
  exact ⟨v, h1, q v H (Same.refl H) h2 fun _ => .inr ⟨i, by simp, h1, e1⟩⟩
def fC (u : U) : Sh → Option U := fun _ => some u
theorem ev_const {v : V} {u : U} (h : PE X e (tC v)) (hu : ∀ H, UV X.prog X.w X.K H v u) (m : mutU u = false) : EV X e (fC u) [] := pe_w h fun σ H Q ⟨τ, u', hr, hf, q⟩ => by
  cases hf
  exact q v H (Same.refl H) (hu H) fun z => by rw [m] at z; cases z
theorem ev_int {i j} : EV X (.Constant (.int i) j pos) (fC (.im (.num i))) [] := ev_const pe_int (fun _ => IV.num) rfl
theorem ev_bl {b j} : EV X (.Constant (.bool b) j pos) (fC (.bl b)) [] := ev_const pe_bl (fun _ => rfl) rfl
theorem ev_non {j} : EV X (.Constant .none j pos) (fC (.im .none)) [] := ev_const pe_non (fun _ => IV.non) rfl
theorem ev_globI {x : Str} {i : Int} {t : Tok} (hg : Gl X x) (hm : X.mg x = some (.int i t)) (hd : (x == ("__debug__" : Str)) = false := by decide) : EV X (.Name x pos) (fC (.im (.num i))) [] :=
  ev_const (pe_glob hg hm (v := .int i) ⟨_, rfl⟩ hd) (fun _ => IV.num) rfl

/-! operators by values -/
def rV (X : Cx) (g : U → U → Option U) : R2 := fun x y H Q => ∃ p q r, UV X.prog X.w X.K H x p ∧ UV X.prog X.w X.K H y q ∧ g p q = some r ∧ ∀ v H', Same H H' → UV X.prog X.w X.K H' v r → (mutU r = true → Fr H v) → Q v H'
def f2 (g : U → U → Option U) (fa fb : Sh → Option U) : Sh → Option U := fun τ => (fa τ).bind fun x => (fb τ).bind fun y => g x y
theorem bind_some {α β : Type} {x : Option α} {f : α → Option β} {r : β} (h : x.bind f = some r) : ∃ a, x = some a ∧ f a = some r := by
  cases x with
  | none => cases h
  | some a => exact ⟨a, rfl, h⟩
/-- two values in a row, then the operation -/
theorem two_w {g : U → U → Option U} {fa fb : Sh → Option U} {ala alb : List Nat} {σ : St} {H : Hp} {Q : VK} (h : tV X (f2 g fa fb) [] σ H Q) : tOp (rV X g) (tV X fa ala) (tV X fb alb) σ H Q := by
  obtain ⟨τ, u, hr, hf, q⟩ := h
  obtain ⟨p, e1, hf⟩ := bind_some hf
  obtain ⟨p', e2, hf⟩ := bind_some hf
  refine ⟨τ, p, hr, e1, fun x H1 s1 u1 _ => ⟨τ, p', hr.same s1, e2, fun y H2 s2 u2 _ => ⟨p, p', u, u1.same s2, u2, hf, fun v H' s3 u3 f3 => ?_⟩⟩⟩
  refine q v H' ((s1.trans s2).trans s3) u3 fun m => .inl ?_
  obtain ⟨a, rfl, ha⟩ := f3 m
  exact ⟨a, rfl, (s1.trans s2).free ha⟩
theorem ev_op {op : Operator} {g : U → U → Option U} {fa fb : Sh → Option U} {ala alb : List Nat} (ho : OpR X (binaryOp op) (rV X g)) (ha : EV X a fa ala) (hb : EV X b fb alb) : EV X (.BinOp a op b pos) (f2 g fa fb) [] :=
  pe_w (pe_op ho ha hb) fun _ _ _ h => two_w h
theorem ev_cmp {op : CmpOp} {g : U → U → Option U} {fa fb : Sh → Option U} {ala alb : List Nat} (ho : OpR X (compareOp op) (rV X g)) (ha : EV X a fa ala) (hb : EV X b fb alb) (hm : behindInMarks op b = false) : EV X (.Compare a [op] [b] pos) (f2 g fa fb) [] :=
  pe_w (pe_cmpR ho ha hb hm) fun _ _ _ h => two_w h
/-- as a test -/
def isB : U → Option Bool
  | .bl b => some b
  | _ => none
def fB (f : Sh → Option U) : Sh → Option Bool := fun τ => (f τ).bind isB
theorem isB_some {u : U} {b : Bool} (h : isB u = some b) : u = .bl b := by
  cases u <;> first | cases h | skip
  rfl
theorem tv_cmp {op : CmpOp} {g : U → U → Option U} {fa fb : Sh → Option U} {ala alb : List Nat} (ho : OpR X (compareOp op) (rV X g)) (ha : EV X a fa ala) (hb : EV X b fb alb) (hm : behindInMarks op b = false) : TV X (.Compare a [op] [b] pos) (fB (f2 g fa fb)) :=
  pt_w (pt_cmpR ho ha hb hm) fun σ H Q ⟨τ, k, hr, hf, q⟩ => by
    obtain ⟨u, e1, e2⟩ := bind_some hf
    have e3 := isB_some e2
    subst e3
    exact two_w ⟨τ, .bl k, hr, e1, fun v H' s1 u1 _ => ⟨k, u1, q H' s1⟩⟩
theorem tv_val {f : Sh → Option U} {al : List Nat} (h : EV X e f al) (he : ∀ whole, isTrue e X.env whole = (do let v ← whole; standAt e.pos; holding [v] (truthy v)) := by intro _; rfl) : TV X e (fB f) :=
  pt_w (pt_val h he) fun σ H Q ⟨τ, k, hr, hf, q⟩ => by
    obtain ⟨u, e1, e2⟩ := bind_some hf
    have e3 := isB_some e2
    subst e3
    exact ⟨τ, .bl k, hr, e1, fun v H' s1 u1 _ => ⟨k, u1, q H' s1⟩⟩
def f1 (g : U → Option U) (fa : Sh → Option U) : Sh → Option U := fun τ => (fa τ).bind g
def rV1 (X : Cx) (g : U → Option U) : V → Hp → VK → Prop := fun x H Q => ∃ p r, UV X.prog X.w X.K H x p ∧ g p = some r ∧ ∀ v H', Same H H' → UV X.prog X.w X.K H' v r → (mutU r = true → Fr H v) → Q v H'
theorem ev_un {op : UnaryOp} {g : U → Option U} {fa : Sh → Option U} {ala : List Nat} (ho : UnR X (unaryOp op) (rV1 X g)) (ha : EV X a fa ala) : EV X (.UnaryOp op a pos) (f1 g fa) [] :=
  pe_w (pe_un ho ha) fun σ H Q ⟨τ, u, hr, hf, q⟩ => by
    obtain ⟨p, e1, hf⟩ := bind_some hf
    refine ⟨τ, p, hr, e1, fun x H1 s1 u1 _ => ⟨p, u, u1, hf, fun v H' s3 u3 f3 => ?_⟩⟩
    refine q v H' (s1.trans s3) u3 fun m => .inl ?_
    obtain ⟨a, rfl, ha⟩ := f3 m
    exact ⟨a, rfl, s1.free ha⟩

/-! and, or, not, if else -/
def fNot (f : Sh → Option Bool) : Sh → Option Bool := fun τ => (f τ).map (!·)
theorem tv_not {f : Sh → Option Bool} (h : TV X a f) : TV X (.UnaryOp .Not a pos) (fNot f) := pt_w (pt_not h) fun σ H Q ⟨τ, k, hr, hf, q⟩ => by
  obtain ⟨b, e1, e2⟩ := Option.map_eq_some_iff.mp hf
  exact ⟨τ, b, hr, e1, fun H' s1 => by subst e2; exact q H' s1⟩
def fAnd (f g : Sh → Option Bool) : Sh → Option Bool := fun τ => (f τ).bind fun b => if b = true then g τ else some false
def fOr (f g : Sh → Option Bool) : Sh → Option Bool := fun τ => (f τ).bind fun b => if b = true then some true else g τ
def TW (X : Cx) (e : Expr) (f : Sh → Option Bool) : Prop := PW X e (tVT X f)
theorem TW.tv {f : Sh → Option Bool} (h : TW X e f) : TV X e f := h.pt
theorem tw_and1 {f : Sh → Option Bool} (h : TV X a f) : TW X (.BoolOp .And [a] pos) f := pw_and1 h
theorem tw_or1 {f : Sh → Option Bool} (h : TV X a f) : TW X (.BoolOp .Or [a] pos) f := pw_or1 h
theorem tw_and {f g : Sh → Option Bool} {rest : List Expr} (h : TV X a f) (h2 : TW X (.BoolOp .And (b :: rest) pos) g) : TW X (.BoolOp .And (a :: b :: rest) pos) (fAnd f g) :=
  pw_w (pw_and h h2) fun σ H Q ⟨τ, k, hr, hf, q⟩ => by
    obtain ⟨x, e1, e2⟩ := bind_some hf
    refine ⟨τ, x, hr, e1, fun H1 s1 => ?_⟩
    cases x with
    | true =>
      rw [if_pos rfl] at e2 ⊢
      exact ⟨τ, k, hr.same s1, e2, fun H2 s2 => q H2 (s1.trans s2)⟩
    | false =>
      rw [if_neg Bool.false_ne_true] at e2 ⊢
      cases e2
      exact q H1 s1
theorem tw_or {f g : Sh → Option Bool} {rest : List Expr} (h : TV X a f) (h2 : TW X (.BoolOp .Or (b :: rest) pos) g) : TW X (.BoolOp .Or (a :: b :: rest) pos) (fOr f g) :=
  pw_w (pw_or h h2) fun σ H Q ⟨τ, k, hr, hf, q⟩ => by
    obtain ⟨x, e1, e2⟩ := bind_some hf
    refine ⟨τ, x, hr, e1, fun H1 s1 => ?_⟩
    cases x with
    | true =>
      rw [if_pos rfl] at e2 ⊢
      cases e2
      exact q H1 s1
    | false =>
      rw [if_neg Bool.false_ne_true] at e2 ⊢
      exact ⟨τ, k, hr.same s1, e2, fun H2 s2 => q H2 (s1.trans s2)⟩
/-! .. as values (truth values all) -/
def fU (f : Sh → Option Bool) : Sh → Option U := fun τ => (f τ).map U.bl
theorem ev_one {op} {f : Sh → Option U} {al : List Nat} (h : EV X a f al) : EV X (.BoolOp op [a] pos) f al := pe_one h
theorem ev_and {f g : Sh → Option U} {al al2 : List Nat} {rest : List Expr} (h : EV X a f al) (h2 : EV X (.BoolOp .And (b :: rest) pos) g al2) : EV X (.BoolOp .And (a :: b :: rest) pos) (fU (fAnd (fB f) (fB g))) [] :=
  pe_w (pe_and h h2) fun σ H Q ⟨τ, u, hr, hf, q⟩ => by
    obtain ⟨k, hf2, rfl⟩ := Option.map_eq_some_iff.mp hf
    obtain ⟨x, e0, e2⟩ := bind_some hf2
    obtain ⟨u1, e1, e3⟩ := bind_some e0
    have e3 := isB_some e3
    subst e3
    refine ⟨τ, .bl x, hr, e1, fun v H1 s1 u1 _ => ⟨x, u1, ?_⟩⟩
    cases x with
    | true =>
      rw [if_pos rfl] at e2 ⊢
      obtain ⟨u2, e2, e4⟩ := bind_some e2
      have e4 := isB_some e4
      subst e4
      exact ⟨τ, .bl k, hr.same s1, e2, fun v H2 s2 u2 _ => q v H2 (s1.trans s2) u2 fun m => by cases m⟩
    | false =>
      rw [if_neg Bool.false_ne_true] at e2 ⊢
      cases e2
      exact q _ H1 s1 rfl fun m => by cases m
theorem ev_or {f g : Sh → Option U} {al al2 : List Nat} {rest : List Expr} (h : EV X a f al) (h2 : EV X (.BoolOp .Or (b :: rest) pos) g al2) : EV X (.BoolOp .Or (a :: b :: rest) pos) (fU (fOr (fB f) (fB g))) [] :=
  pe_w (pe_or h h2) fun σ H Q ⟨τ, u, hr, hf, q⟩ => by
    obtain ⟨k, hf2, rfl⟩ := Option.map_eq_some_iff.mp hf
    obtain ⟨x, e0, e2⟩ := bind_some hf2
    obtain ⟨u1, e1, e3⟩ := bind_some e0
    have e3 := isB_some e3
    subst e3
    refine ⟨τ, .bl x, hr, e1, fun v H1 s1 u1 _ => ⟨x, u1, ?_⟩⟩
    cases x with
    | true =>
      rw [if_pos rfl] at e2 ⊢
      cases e2
      exact q _ H1 s1 rfl fun m => by cases m
    | false =>
      rw [if_neg Bool.false_ne_true] at e2 ⊢
      obtain ⟨u2, e2, e4⟩ := bind_some e2
      have e4 := isB_some e4
      subst e4
      exact ⟨τ, .bl k, hr.same s1, e2, fun v H2 s2 u2 _ => q v H2 (s1.trans s2) u2 fun m => by cases m⟩
theorem ev_not {f : Sh → Option U} {al : List Nat} (h : EV X a f al) : EV X (.UnaryOp .Not a pos) (fU (fNot (fB f))) [] :=
  pe_w (pe_not h) fun σ H Q ⟨τ, u, hr, hf, q⟩ => by
    obtain ⟨k, hf2, rfl⟩ := Option.map_eq_some_iff.mp hf
    obtain ⟨x, e0, e2⟩ := Option.map_eq_some_iff.mp hf2
    obtain ⟨u1, e1, e3⟩ := bind_some e0
    have e3 := isB_some e3
    subst e3 e2
    exact ⟨τ, .bl x, hr, e1, fun v H1 s1 u1 _ => ⟨x, u1, q _ H1 s1 rfl fun m => by cases m⟩⟩
def fIf (t : Sh → Option Bool) (f g : Sh → Option U) : Sh → Option U := fun τ => (t τ).bind fun b => if b = true then f τ else g τ
theorem ev_if {t : Sh → Option Bool} {f g : Sh → Option U} {al al2 : List Nat} (hc : TV X c t) (h : EV X a f al) (h2 : EV X b g al2) : EV X (.IfExp c a b pos) (fIf t f g) (al ++ al2) :=
  pe_w (pe_ifExp hc h h2) fun σ H Q ⟨τ, u, hr, hf, q⟩ => by
    obtain ⟨x, e1, e2⟩ := bind_some hf
    refine ⟨τ, x, hr, e1, fun H1 s1 => ?_⟩
    have back : ∀ {al' : List Nat} {v : V}, (∀ j ∈ al', j ∈ al ++ al2) → Frs H1 σ τ al' v u → Frs H σ τ (al ++ al2) v u := fun {al' v} hs z m => by
      rcases z m with ⟨a, rfl, ha⟩ | ⟨j, hj, z⟩
      · exact .inl ⟨a, rfl, s1.free ha⟩
      · exact .inr ⟨j, hs j hj, z⟩
    cases x with
    | true =>
      rw [if_pos rfl] at e2
      show if true = true then tV X f al σ H1 Q else tV X g al2 σ H1 Q
      rw [if_pos rfl]
      exact ⟨τ, u, hr.same s1, e2, fun v H2 s2 u2 z => q v H2 (s1.trans s2) u2 (back (fun j hj => List.mem_append_left _ hj) z)⟩
    | false =>
      rw [if_neg Bool.false_ne_true] at e2
      show if false = true then tV X f al σ H1 Q else tV X g al2 σ H1 Q
      rw [if_neg Bool.false_ne_true]
      exact ⟨τ, u, hr.same s1, e2, fun v H2 s2 u2 z => q v H2 (s1.trans s2) u2 (back (fun j hj => List.mem_append_right _ hj) z)⟩

/-! argument lists -/
def fNil : Sh → Option (List U) := fun _ => some []
def fCons (f : Sh → Option U) (g : Sh → Option (List U)) : Sh → Option (List U) := fun τ => (f τ).bind fun u => (g τ).bind fun us => some (u :: us)
theorem av_nil : AV X [] fNil := pa_w pa_nil fun σ H Q ⟨τ, us, hr, hf, q⟩ => by
  cases hf
  exact q [] H (Same.refl H) .nil
theorem av_cons {es : List Expr} {f : Sh → Option U} {g : Sh → Option (List U)} {al : List Nat} (h : EV X e f al) (hs : AV X es g) (hst : starEach (e :: es) X.env = (false, eval e X.env) :: starEach es X.env := by rfl) : AV X (e :: es) (fCons f g) :=
  pa_w (pa_cons h hs hst) fun σ H Q ⟨τ, us, hr, hf, q⟩ => by
    obtain ⟨u, e1, hf⟩ := bind_some hf
    obtain ⟨us', e2, hf⟩ := bind_some hf
    cases hf
    exact ⟨τ, u, hr, e1, fun v H1 s1 u1 _ => ⟨τ, us', hr.same s1, e2, fun vs H2 s2 u2 => q _ H2 (s1.trans s2) (.cons (u1.same s2) u2)⟩⟩
/-- all of them data -/
def ims : List U → Option (List D)
  | [] => some []
  | .im d :: us => (ims us).map (d :: ·)
  | _ => none
theorem ims_vs {P : Program} {w : World} {K : PySem.W.Frag} {H : Hp} : ∀ {vs : List V} {us : List U} {ds : List D}, UVs P w K H vs us → ims us = some ds → IVs K H vs ds
  | _, [], ds, .nil, h => by cases h; exact .nil
  | _, .im d :: us, ds, .cons a b, h => by
    obtain ⟨es, h1, rfl⟩ := Option.map_eq_some_iff.mp h
    exact .cons a (ims_vs b h1)
  | _, .bl _ :: _, _, _, h => by cases h
  | _, .ls _ :: _, _, _, h => by cases h
  | _, .dc _ :: _, _, _, h => by cases h
  | _, .rw _ :: _, _, _, h => by cases h
/-- a tuple's display -/
def mkTup (ds : List D) : Option U := if NestedKey.depthAll ds ≤ 7 ∧ ds.length ≤ sizeLine then some (.im (.tup ds)) else none
def fTup (g : Sh → Option (List U)) : Sh → Option U := fun τ => (g τ).bind fun us => (ims us).bind mkTup
theorem mkTup_some {ds : List D} {u : U} (h : mkTup ds = some u) : u = .im (.tup ds) ∧ NestedKey.depthAll ds ≤ 7 ∧ ds.length ≤ sizeLine := by
  unfold mkTup at h
  split at h
  · cases h
    exact ⟨rfl, by assumption⟩
  · cases h
theorem ev_tup {es : List Expr} {k : Nat} {g : Sh → Option (List U)} (h : AV X es g) : EV X (.Tuple es k pos) (fTup g) [] :=
  pe_w (pe_tup h) fun σ H Q ⟨τ, u, hr, hf, q⟩ => by
    obtain ⟨us, e1, hf⟩ := bind_some hf
    obtain ⟨ds, e2, hf⟩ := bind_some hf
    obtain ⟨rfl, hd, hl⟩ := mkTup_some hf
    refine ⟨τ, us, hr, e1, fun vs H1 s1 u1 => ?_⟩
    have iv := ims_vs u1 e2
    refine ⟨by rw [iv.length]; exact hl, fun p np => ?_⟩
    have sp : Same H1 (upd H1 p (.tup vs)) := fun b o z => by rw [upd_ne (ne_of_none z np)]; exact z
    exact q _ _ (s1.trans sp) (IV.tup (SqT.of upd_same) (iv.keep (Same.tk sp)) hd) fun m => by cases m
/-- a list's display -/
def mkLst (ds : List D) : Option U := if ds.length ≤ sizeLine then some (.ls ds) else none
theorem mkLst_some {ds : List D} {u : U} (h : mkLst ds = some u) : u = .ls ds ∧ ds.length ≤ sizeLine := by
  unfold mkLst at h
  split at h
  · cases h
    exact ⟨rfl, by assumption⟩
  · cases h
def fLst (g : Sh → Option (List U)) : Sh → Option U := fun τ => (g τ).bind fun us => (ims us).bind mkLst
theorem ev_lst {es : List Expr} {g : Sh → Option (List U)} (h : AV X es g) : EV X (.List es pos) (fLst g) [] :=
  pe_w (pe_lst h) fun σ H Q ⟨τ, u, hr, hf, q⟩ => by
    obtain ⟨us, e1, hf⟩ := bind_some hf
    obtain ⟨ds, e2, hf⟩ := bind_some hf
    obtain ⟨rfl, hl⟩ := mkLst_some hf
    refine ⟨τ, us, hr, e1, fun vs H1 s1 u1 => ?_⟩
    have iv := ims_vs u1 e2
    refine ⟨by rw [iv.length]; exact hl, fun p np => ?_⟩
    have sp : Same H1 (upd H1 p (.lst vs)) := fun b o z => by rw [upd_ne (ne_of_none z np)]; exact z
    exact q _ _ (s1.trans sp) ⟨p, vs, rfl, upd_same, iv.keep (Same.tk sp)⟩ fun _ => .inl ⟨p, rfl, s1.free np⟩
end
end VL

set_option Elab.async false
set_option linter.all false
set_option maxRecDepth 100000
set_option maxHeartbeats 4000000
/-! VLc: dicts from tuples; operators, comparisons, subscripts by values. -/
namespace VL
open PySem L2

/-! ### dicts -/
def lookD (kvs : List (D × W)) (k : D) : Option W := (kvs.find? fun kv => decide (kv.1 = k)).map (·.2)
def stoD (kvs : List (D × W)) (k : D) (w : W) : List (D × W) := if (lookD kvs k).isSome then kvs.map (fun kv => if kv.1 = k then (kv.1, w) else kv) else kvs ++ [(k, w)]
section
variable {P : Program} {w : World} {K : PySem.W.Frag} {H H' : Hp}
theorem ent_look {k : D} : ∀ {kvs : List (D × W)} {xs : List (D × Addr × Value)}, Paired (DEnt K H) kvs xs →
    (lookD kvs k = none ∧ atKey xs k = none) ∨ ∃ u p, lookD kvs k = some u ∧ atKey xs k = some p ∧ IV K H (.ref p.1) k ∧ ∃ z, RelV z p.2 ∧ WV K H z u
  | _, _, .nil => .inl ⟨rfl, rfl⟩
  | kv :: kvs, x :: xs, .cons r t => by
    obtain ⟨e, h1, z, h2, h3⟩ := r
    by_cases hk : x.1 = k
    · refine .inr ⟨kv.2, x.2, ?_, ?_, ?_, z, h2, h3⟩
      · unfold lookD
        rw [List.find?_cons_of_pos (by rw [e]; exact decide_eq_true hk)]
        rfl
      · unfold atKey
        rw [List.find?_cons_of_pos (by simpa using hk)]
        rfl
      · rw [← hk]
        exact h1
    · have e1 : lookD (kv :: kvs) k = lookD kvs k := by
        unfold lookD
        rw [List.find?_cons_of_neg (by rw [e]; simpa using hk)]
      have e2 : atKey (x :: xs) k = atKey xs k := by
        unfold atKey
        rw [List.find?_cons_of_neg (by simpa using hk)]
      rw [e1, e2]
      exact ent_look t
theorem ent_map {k : D} {v : Value} {z : V} {u : W} (rz : RelV z v) (wz : WV K H z u) : ∀ {kvs : List (D × W)} {xs : List (D × Addr × Value)}, Paired (DEnt K H) kvs xs →
    Paired (DEnt K H) (kvs.map (fun kv => if kv.1 = k then (kv.1, u) else kv)) (xs.map (putAt k v))
  | _, _, .nil => .nil
  | kv :: kvs, x :: xs, .cons r t => by
    rw [List.map_cons, List.map_cons]
    refine .cons ?_ (ent_map rz wz t)
    obtain ⟨e, h1, z', h2, h3⟩ := r
    unfold putAt
    by_cases hk : x.1 = k
    · rw [if_pos hk, if_pos (by rw [e]; exact hk)]
      exact ⟨e, h1, z, rz, wz⟩
    · rw [if_neg hk, if_neg (by rw [e]; exact hk)]
      exact ⟨e, h1, z', h2, h3⟩
theorem ent_app {kv : D × W} {x : D × Addr × Value} (r : DEnt K H kv x) : ∀ {kvs : List (D × W)} {xs : List (D × Addr × Value)}, Paired (DEnt K H) kvs xs → Paired (DEnt K H) (kvs ++ [kv]) (xs ++ [x])
  | _, _, .nil => .cons r .nil
  | _, _, .cons q t => .cons q (ent_app r t)
theorem ent_sto {k : D} {b : Addr} {v : Value} {z : V} {u : W} {kvs : List (D × W)} {xs : List (D × Addr × Value)} (t : Paired (DEnt K H) kvs xs) (hk : IV K H (.ref b) k) (rz : RelV z v) (wz : WV K H z u) :
    Paired (DEnt K H) (stoD kvs k u) (storedH xs k b v) := by
  unfold stoD storedH
  rcases ent_look (k := k) t with ⟨e1, e2⟩ | ⟨q, p, e1, e2, _⟩
  · rw [e1, e2]
    exact ent_app ⟨rfl, hk, z, rz, wz⟩ t
  · rw [e1, e2]
    exact ent_map rz wz t
theorem sto_length (kvs : List (D × W)) (k : D) (u : W) : (stoD kvs k u).length ≤ kvs.length + 1 := by
  unfold stoD
  split
  · rw [List.length_map]
    omega
  · rw [List.length_append]
    exact Nat.le_refl _
end

section
variable {X : Cx} {pins : List (Addr × Obj)} {σ : St} {H : Hp} {s : Shared} {a : Addr} {kvs : List (D × W)}
theorem ent_mem {K : PySem.W.Frag} : ∀ {kvs : List (D × W)} {xs : List (D × Addr × Value)}, Paired (DEnt K H) kvs xs → ∀ x ∈ xs, IV K H (.ref x.2.1) x.1
  | _, _, .cons r t, x, m => by
    rcases List.mem_cons.mp m with rfl | m
    · exact r.2.1
    · exact ent_mem t x m
theorem ent_keys {K : PySem.W.Frag} : ∀ {kvs : List (D × W)} {xs : List (D × Addr × Value)}, Paired (DEnt K H) kvs xs → xs.map (·.1) = kvs.map (·.1)
  | _, _, .nil => rfl
  | _, _, .cons r t => by rw [List.map_cons, List.map_cons, ent_keys t, r.1]
theorem key_is (I : Inv X pins σ H s) {b : Addr} {k : D} (h : IV X.K H (.ref b) k) : (nestedKind X.prog X.w).is s.heap k b := ⟨dp_nested I k _ _ h.dp rfl, h.dep⟩
/-- the dict, in the library's words -/
theorem DcAt.lib (I : Inv X pins σ H s) (h : DcAt X.prog X.w X.K H a kvs) : (a == sysModules) = false ∧ kvs.length ≤ sizeLine ∧ ∃ xs, s.heap.DictOfH (nestedKind X.prog X.w) a xs ∧ Paired (DEnt X.K H) kvs xs ∧ xs.length = kvs.length := by
  obtain ⟨h0, h1, o, es, ep, xs, h2, h3, h4, h5, h6, h7⟩ := h
  have ho : s.heap.get? a = some o := (I.hok a _ h2).1
  exact ⟨h0, h1, xs, ⟨o, es, ep, ho, h3, h4, h5, fun x hx => key_is I (ent_mem h7 x hx), h6⟩, h7, (Paired.length h7).symm⟩
theorem DcAt.at (h : DcAt X.prog X.w X.K H a kvs) : ∃ o, H a = some (obO a o) := by
  obtain ⟨_, _, o, _, _, _, h2, _⟩ := h
  exact ⟨o, h2⟩
/-- a dict of the library, tracked -/
theorem obO_ok {P : Program} {w : World} {H : Hp} {h : Heap} {a : Addr} {o : Obj} (e : h.get? a = some o) : ObjOk P w H h a (obO a o) := ⟨e, ⟨o, e⟩, fun _ _ p k => k _ p⟩
theorem dc_mk {h : Heap} {xs : List (D × Addr × Value)} (h0 : (a == sysModules) = false) (h1 : kvs.length ≤ sizeLine) (d : h.DictOfH (nestedKind X.prog X.w) a xs) (r : ∀ o, Paired (DEnt X.K (upd H a (obO a o))) kvs xs) :
    ∃ o, h.get? a = some o ∧ DcAt X.prog X.w X.K (upd H a (obO a o)) a kvs := by
  obtain ⟨o, es, ep, e, x1, x2, x3, x4, x5⟩ := d
  exact ⟨o, e, h0, h1, o, es, ep, xs, upd_same, x1, x2, x3, x5, r o⟩
theorem units8 (hu : X.A.units + 64 < cLine) : (nestedKind X.prog X.w).room X.A.in1 := by
  show X.A.units + 1 + 8 < cLine
  omega
/-- d[k] = v -/
theorem dc_put {b : Addr} {k : D} {z : V} {v : Value} {u : W} {E : Value → Shared → Prop} {Q : Unit → Shared → Prop} (hu : X.A.units + 64 < cLine) (I : Inv X pins σ H s) (h : DcAt X.prog X.w X.K H a kvs) (hl : kvs.length < sizeLine)
    (hk : IV X.K H (.ref b) k) (rz : RelV z v) (wz : WV X.K H z u)
    (q : ∀ o s', Inv X pins σ (upd H a (obO a o)) s' → DcAt X.prog X.w X.K (upd H a (obO a o)) a (stoD kvs k u) → Q () s') : wpAny (model X.prog X.w) X.A (setItem (.ref a) (.ref b) v) Q E s := by
  obtain ⟨o1, e1⟩ := h.at
  obtain ⟨h0, _, xs, hd, hp, hlen⟩ := h.lib I
  refine wpAny_setItem_heap (knd := nestedKind X.prog X.w) (hsz := by omega) (units8 hu) (key_is I hk) hd fun h' hd' hs => ?_
  have nt : NoTup (H a) := by rw [e1]; trivial
  obtain ⟨o, eo, d⟩ := dc_mk (X := X) (H := H) (kvs := stoD kvs k u) h0 (by have := sto_length kvs k u; omega) hd' fun o => Paired.mapP (ent_sto hp hk rz wz) fun _ _ z => z.keep (TKeep.upd nt)
  refine q o _ (I.write (x := a) (e := a) (by rw [e1]; trivial) (.inl rfl) (fun b q hb z => (hs.2 b hb).trans z) ⟨o, eo⟩ (obO_ok eo)) d
/-- the same by dictSet (a comprehension's store) -/
theorem dc_putC {b : Addr} {k : D} {z : V} {v : Value} {u : W} {E : Value → Shared → Prop} {Q : Unit → Shared → Prop} (hu : X.A.units + 64 < cLine) (I : Inv X pins σ H s) (h : DcAt X.prog X.w X.K H a kvs) (hl : kvs.length < sizeLine)
    (hk : IV X.K H (.ref b) k) (rz : RelV z v) (wz : WV X.K H z u)
    (q : ∀ o s', Inv X pins σ (upd H a (obO a o)) s' → DcAt X.prog X.w X.K (upd H a (obO a o)) a (stoD kvs k u) → Q () s') : wpAny (model X.prog X.w) X.A (dictSet a (.ref b) v) Q E s := by
  obtain ⟨o1, e1⟩ := h.at
  obtain ⟨h0, _, xs, hd, hp, hlen⟩ := h.lib I
  refine wpAny_dictSet_heap (knd := nestedKind X.prog X.w) (hsz := by omega) (by show X.A.units + 8 < cLine; omega) (key_is I hk) hd fun h' hd' hs => ?_
  have nt : NoTup (H a) := by rw [e1]; trivial
  obtain ⟨o, eo, d⟩ := dc_mk (X := X) (H := H) (kvs := stoD kvs k u) h0 (by have := sto_length kvs k u; omega) hd' fun o => Paired.mapP (ent_sto hp hk rz wz) fun _ _ z => z.keep (TKeep.upd nt)
  refine q o _ (I.write (x := a) (e := a) (by rw [e1]; trivial) (.inl rfl) (fun b q hb z => (hs.2 b hb).trans z) ⟨o, eo⟩ (obO_ok eo)) d
/-- a new empty dict, laid -/
theorem dc_empty (I : Inv X pins σ H s) : ∃ o, Inv X pins σ (upd H s.heap.objs.size (obO s.heap.objs.size o)) { s with heap := s.heap.push { cls := .type "dict", data := .dict #[] } } ∧
    DcAt X.prog X.w X.K (upd H s.heap.objs.size (obO s.heap.objs.size o)) s.heap.objs.size [] := by
  have hb := I.big
  have h0 : (s.heap.objs.size == sysModules) = false := beq_eq_false_iff_ne.mpr (Nat.ne_of_gt hb)
  obtain ⟨o, eo, d⟩ := dc_mk (X := X) (H := H) (kvs := []) h0 (Nat.zero_le _) (Heap.DictOfH.new (knd := nestedKind X.prog X.w) s.heap) fun o => .nil
  exact ⟨o, I.laid (t' := s.toks) (fun b q e => Heap.get?_push_of_some _ e) (Nat.le_refl _) (obO_ok eo), d⟩
end

/-! ### operators -/
def wU : W → U
  | .k d => .im d
  | .b x => .bl x
theorem wU_uv {P : Program} {w : World} {K : PySem.W.Frag} {H : Hp} {v : V} : ∀ {u : W}, WV K H v u → UV P w K H v (wU u)
  | .k _, h => h
  | .b _, h => h
theorem wU_mut (u : W) : mutU (wU u) = false := by cases u <;> rfl

def addU : U → U → Option U
  | .im (.num i), .im (.num j) => some (.im (.num (i + j)))
  | .im (.tup a), .im (.tup b) => if a.length + b.length ≤ sizeLine then some (.im (.tup (a ++ b))) else none
  | .ls a, .ls b => if a.length + b.length ≤ sizeLine then some (.ls (a ++ b)) else none
  | _, _ => none
def numU (C : Int → Int → Prop) [∀ i j, Decidable (C i j)] (f : Int → Int → Int) : U → U → Option U
  | .im (.num i), .im (.num j) => if C i j then some (.im (.num (f i j))) else none
  | _, _ => none
abbrev cT : Int → Int → Prop := fun _ _ => True
abbrev subU := numU cT fun i j => i - j
abbrev mulU := numU (fun i j => (-(2 ^ 64) < i ∧ i < 2 ^ 64) ∨ (-(2 ^ 64) < j ∧ j < 2 ^ 64)) fun i j => i * j
abbrev divU := numU (fun _ j => 0 < j ∧ j < 1073741824) fun i j => i / j
abbrev modU := numU (fun _ j => 0 < j) fun i j => i % j
abbrev shlU := numU (fun i j => 0 ≤ j ∧ j ≤ 1000000 ∧ i.natAbs < 2 ^ 64) fun i j => i * 2 ^ j.toNat
abbrev shrU := numU (fun _ j => 0 ≤ j) fun i j => i / 2 ^ j.toNat
abbrev powU := numU (fun i j => 0 ≤ j ∧ j ≤ 1000000 ∧ i.natAbs < 2 ^ 64) fun i j => i ^ j.toNat
abbrev bandU := numU cT Builtin.bitAnd
def negU : U → Option U
  | .im (.num i) => some (.im (.num (-i)))
  | _ => none
section
variable {X : Cx}
theorem ov_num {f : Value → Value → Sem Value} {C : Int → Int → Prop} [∀ i j, Decidable (C i j)] {g : Int → Int → Int} (h : OpR X f (rI C fun i j => .int (g i j))) : OpR X f (rV X (numU C g)) := by
  intro pins s σ H x y v u Q I rx ry ⟨p, q, r, ux, uy, hg, k⟩
  unfold numU at hg
  split at hg
  · rename_i i j
    split at hg
    · rename_i hc
      cases hg
      cases IV.of_num ux
      cases IV.of_num uy
      exact h pins s σ H _ _ v u Q I rx ry ⟨i, j, rfl, rfl, hc, k _ H (Same.refl H) IV.num fun m => by cases m⟩
    · cases hg
  · cases hg
theorem rI0_rI {f : Value → Value → Sem Value} {g : Int → Int → V} (h : OpR X f (rI0 g)) : OpR X f (rI cT g) := by
  intro pins s σ H x y v u Q I rx ry ⟨i, j, e1, e2, _, q⟩
  exact h pins s σ H x y v u Q I rx ry ⟨i, j, e1, e2, q⟩
theorem ov_sub : OpR X (binaryOp .Sub) (rV X subU) := ov_num (rI0_rI op_sub)
theorem ov_mul : OpR X (binaryOp .Mult) (rV X mulU) := ov_num op_mul
theorem ov_div : OpR X (binaryOp .FloorDiv) (rV X divU) := ov_num op_fdiv
theorem ov_mod : OpR X (binaryOp .Mod) (rV X modU) := ov_num op_mod
theorem ov_shl : OpR X (binaryOp .LShift) (rV X shlU) := ov_num op_shl
theorem ov_shr : OpR X (binaryOp .RShift) (rV X shrU) := ov_num op_shr
theorem ov_pow : OpR X (binaryOp .Pow) (rV X powU) := ov_num op_pow
theorem ov_band : OpR X (binaryOp .BitAnd) (rV X bandU) := ov_num (rI0_rI op_and)
theorem ov_neg : UnR X (unaryOp .USub) (rV1 X negU) := by
  intro pins s σ H x v Q I rx ⟨p, r, ux, hg, k⟩
  unfold negU at hg
  split at hg
  · cases hg
    cases IV.of_num ux
    exact un_neg pins s σ H _ v Q I rx ⟨_, rfl, k _ H (Same.refl H) IV.num fun m => by cases m⟩
  · cases hg
theorem laid_same {H : Hp} {p : Addr} {o : HO} (np : H p = none) : Same H (upd H p o) := fun b q z => by rw [upd_ne (ne_of_none z np)]; exact z
theorem ov_add : OpR X (binaryOp .Add) (rV X addU) := by
  intro pins s σ H x y v u Q I rx ry ⟨p, q, r, ux, uy, hg, k⟩
  unfold addU at hg
  split at hg
  · cases hg
    cases IV.of_num ux
    cases IV.of_num uy
    exact op_add pins s σ H _ _ v u Q I rx ry ⟨_, _, rfl, rfl, k _ H (Same.refl H) IV.num fun m => by cases m⟩
  · rename_i a b
    split at hg
    · rename_i hl
      cases hg
      obtain ⟨p1, xs, rfl, t1, i1⟩ := IV.of_tup ux
      obtain ⟨p2, ys, rfl, t2, i2⟩ := IV.of_tup uy
      have hd : NestedKey.depthAll (a ++ b) ≤ 7 := by
        refine depth_all fun d m => ?_
        have h1 : NestedKey.depthAll a + 1 ≤ 8 := by
          have z : (NestedKey.tup a).depth ≤ 8 := IV.dep ux
          simpa only [NestedKey.depth] using z
        have h2 : NestedKey.depthAll b + 1 ≤ 8 := by
          have z : (NestedKey.tup b).depth ≤ 8 := IV.dep uy
          simpa only [NestedKey.depth] using z
        rcases List.mem_append.mp m with m | m
        · have := depth_mem m
          omega
        · have := depth_mem m
          omega
      refine op_catA pins s σ H _ _ v u Q I rx ry ⟨p1, p2, xs, ys, rfl, rfl, t1, t2, by rw [i1.length, i2.length]; exact hl, fun e => ?_, fun _ e => ?_, fun _ _ p np => ?_⟩
      · subst e
        cases i1
        exact k _ H (Same.refl H) uy fun m => by cases m
      · subst e
        cases i2
        rw [List.append_nil] at k
        exact k _ H (Same.refl H) ux fun m => by cases m
      · have sp := laid_same (o := .tup (xs ++ ys)) np
        exact k _ _ sp (IV.tup (SqT.of upd_same) ((i1.append i2).keep (Same.tk sp)) hd) fun m => by cases m
    · cases hg
  · rename_i a b
    split at hg
    · rename_i hl
      cases hg
      obtain ⟨p1, xs, rfl, t1, i1⟩ := ux
      obtain ⟨p2, ys, rfl, t2, i2⟩ := uy
      refine op_cat pins s σ H _ _ v u Q I rx ry ⟨p1, p2, xs, ys, rfl, rfl, t1, t2, by rw [i1.length, i2.length]; exact hl, fun p np => ?_⟩
      have sp := laid_same (o := .lst (xs ++ ys)) np
      exact k _ _ sp ⟨p, _, rfl, upd_same, (i1.append i2).keep (Same.tk sp)⟩ fun _ => ⟨p, rfl, np⟩
    · cases hg
  · cases hg
end

/-! ### comparisons -/
def eqU : U → U → Option U
  | .im a, .im b => some (.bl (decide (a = b)))
  | .ls a, .ls b => some (.bl (decide (a = b)))
  | .bl a, .bl b => some (.bl (a == b))
  | _, _ => none
def neU (x y : U) : Option U := (eqU x y).bind fun r => (isB r).map fun b => .bl !b
/-- a < b of data -/
def ltD (a b : D) : Bool := PySem.W.dataLt a.data b.data
def alD (a b : D) : Bool := PySem.W.alike a.data b.data
def isNoneD : D → Bool
  | .none => true
  | _ => false
def ltU : U → U → Option U
  | .im a, .im b => if alD a b = true ∧ isNoneD a = false then some (.bl (ltD a b)) else none
  | _, _ => none
def gtU : U → U → Option U
  | .im a, .im b => if alD a b = true ∧ isNoneD a = false then some (.bl (ltD b a)) else none
  | _, _ => none
def leU : U → U → Option U
  | .im a, .im b => if alD a b = true ∧ isNoneD a = false then some (.bl (!ltD b a)) else none
  | _, _ => none
def geU : U → U → Option U
  | .im a, .im b => if alD a b = true ∧ isNoneD a = false then some (.bl (!ltD a b)) else none
  | _, _ => none
theorem not_none_data {a : D} (h : isNoneD a = false) : a.data ≠ .none := by
  cases a with
  | none => cases h
  | _ => simp only [NestedKey.data]; intro z; cases z
theorem toPD {P : Program} {w : World} {K : PySem.W.Frag} {H : Hp} {x : V} {u : U} (h : UV P w K H x u) : (∃ d, u = .im d ∧ Dp K H x d.data ∧ SeqAt.shaped d.data = true) ∨ (∃ b, u = .bl b ∧ Dp K H x (.bool b) ∧ SeqAt.shaped (.bool b) = true) ∨
    (∃ ds, u = .ls ds ∧ Dp K H x (.list (NestedKey.datas ds)) ∧ SeqAt.shaped (.list (NestedKey.datas ds)) = true) ∨ (∃ k, u = .dc k) ∨ ∃ v, u = .rw v := by
  cases u with
  | im d => exact .inl ⟨d, rfl, IV.dp h, IV.shaped h⟩
  | bl b =>
    cases h
    exact .inr (.inl ⟨b, rfl, .bl b, by cases b <;> decide⟩)
  | ls ds =>
    obtain ⟨a, xs, rfl, h1, h2⟩ := h
    exact .inr (.inr (.inl ⟨ds, rfl, .lst (SqL.of h1) h2.dps, h2.shaped⟩))
  | dc k => exact .inr (.inr (.inr (.inl ⟨k, rfl⟩)))
  | rw v => exact .inr (.inr (.inr (.inr ⟨v, rfl⟩)))
section
variable {X : Cx}
theorem eqU_data {H : Hp} {x y : V} {p q : U} {b : Bool} (ux : UV X.prog X.w X.K H x p) (uy : UV X.prog X.w X.K H y q) (h : eqU p q = some (.bl b)) :
    ∃ d e, Dp X.K H x d ∧ Dp X.K H y e ∧ SeqAt.shaped d = true ∧ SeqAt.shaped e = true ∧ PyData.eqv d e = b := by
  unfold eqU at h
  split at h
  · cases h
    exact ⟨_, _, IV.dp ux, IV.dp uy, IV.shaped ux, IV.shaped uy, eqv_dec _ _⟩
  · cases h
    obtain ⟨a1, xs, rfl, h1, h2⟩ := ux
    obtain ⟨a2, ys, rfl, g1, g2⟩ := uy
    exact ⟨_, _, .lst (SqL.of h1) h2.dps, .lst (SqL.of g1) g2.dps, h2.shaped, g2.shaped, by simp only [PyData.eqv]; exact eqvs_dec _ _⟩
  · cases h
    cases ux
    cases uy
    exact ⟨_, _, .bl _, .bl _, by decide +revert, by decide +revert, by simp only [PyData.eqv]⟩
  · cases h
theorem eqU_bl {p q r : U} (h : eqU p q = some r) : ∃ b, r = .bl b := by
  unfold eqU at h
  split at h <;> first | (cases h; exact ⟨_, rfl⟩) | cases h
theorem ov_eq (hu : X.A.units + 64 < cLine) : OpR X (compareOp .Eq) (rV X eqU) := by
  intro pins s σ H x y v u Q I rx ry ⟨p, q, r, ux, uy, hg, k⟩
  obtain ⟨b, rfl⟩ := eqU_bl hg
  obtain ⟨d, e, h1, h2, h3, h4, h5⟩ := eqU_data ux uy hg
  exact op_eqD hu pins s σ H x y v u Q I rx ry ⟨d, e, h1, h2, h3, h4, by rw [h5]; exact k _ H (Same.refl H) rfl fun m => by cases m⟩
theorem ov_ne (hu : X.A.units + 64 < cLine) : OpR X (compareOp .NotEq) (rV X neU) := by
  intro pins s σ H x y v u Q I rx ry ⟨p, q, r, ux, uy, hg, k⟩
  obtain ⟨r1, hg1, hg2⟩ := bind_some hg
  obtain ⟨b', rfl⟩ := eqU_bl hg1
  obtain ⟨b, e1, e2⟩ := Option.map_eq_some_iff.mp hg2
  cases e1
  subst e2
  obtain ⟨d, e, h1, h2, h3, h4, h5⟩ := eqU_data ux uy hg1
  exact op_neD hu pins s σ H x y v u Q I rx ry ⟨d, e, h1, h2, h3, h4, by rw [h5]; exact k _ H (Same.refl H) rfl fun m => by cases m⟩
theorem ov_ord {op : CmpOp} {g : D → D → Bool} {G : U → U → Option U} (hG : ∀ p q r, G p q = some r → ∃ a b, p = .im a ∧ q = .im b ∧ alD a b = true ∧ isNoneD a = false ∧ r = .bl (g a b))
    (rule : ∀ (a b : D) (s : Shared) (u v : Value) (as bs : List Addr) (Q : Value → Shared → Prop) (E : Value → Shared → Prop), Reads s.heap u a.data as → Reads s.heap v b.data bs → PySem.W.alike a.data b.data = true → a.data ≠ .none → X.A.units + min a.data.depth b.data.depth < cLine → Q (.bool (g a b)) s → wpAny (model X.prog X.w) X.A (compareOp op u v) Q E s)
    (hu : X.A.units + 64 < cLine) : OpR X (compareOp op) (rV X G) := by
  intro pins s σ H x y v u Q I rx ry ⟨p, q, r, ux, uy, hg, k⟩
  obtain ⟨a, b, rfl, rfl, h1, h2, rfl⟩ := hG p q r hg
  obtain ⟨as, r1⟩ := Dp.reads I _ _ _ (IV.dp ux) rx
  obtain ⟨bs, r2⟩ := Dp.reads I _ _ _ (IV.dp uy) ry
  refine rule a b s v u as bs _ _ r1 r2 h1 (not_none_data h2) ?_ ⟨.bl _, H, I, rfl, k _ H (Same.refl H) rfl fun m => by cases m⟩
  have := IV.dep ux
  rw [depth_data, depth_data]
  have := Nat.min_le_left a.depth b.depth
  omega
theorem ordU_some {g : D → D → Bool} {p q r : U} {G : U → U → Option U} (hG : ∀ p q, G p q = match p, q with | .im a, .im b => if alD a b = true ∧ isNoneD a = false then some (.bl (g a b)) else none | _, _ => none) (h : G p q = some r) :
    ∃ a b, p = .im a ∧ q = .im b ∧ alD a b = true ∧ isNoneD a = false ∧ r = .bl (g a b) := by
  rw [hG] at h
  split at h
  · split at h
    · rename_i hc
      cases h
      exact ⟨_, _, rfl, rfl, hc.1, hc.2, rfl⟩
    · cases h
  · cases h
theorem ov_lt (hu : X.A.units + 64 < cLine) : OpR X (compareOp .Lt) (rV X ltU) :=
  ov_ord (g := fun a b => ltD a b) (fun p q r h => ordU_some (G := ltU) (fun p q => by unfold ltU; rfl) h) (fun a b s u v as bs Q E r1 r2 h hn hu q => PySem.W.lt_data r1 r2 h hn hu q) hu
theorem ov_gt (hu : X.A.units + 64 < cLine) : OpR X (compareOp .Gt) (rV X gtU) :=
  ov_ord (g := fun a b => ltD b a) (fun p q r h => ordU_some (G := gtU) (fun p q => by unfold gtU; rfl) h) (fun a b s u v as bs Q E r1 r2 h hn hu q => PySem.W.gt_data r1 r2 h hn hu q) hu
theorem ov_le (hu : X.A.units + 64 < cLine) : OpR X (compareOp .LtE) (rV X leU) :=
  ov_ord (g := fun a b => !ltD b a) (fun p q r h => ordU_some (G := leU) (fun p q => by unfold leU; rfl) h) (fun a b s u v as bs Q E r1 r2 h hn hu q => PySem.W.le_data r1 r2 h hn hu q) hu
theorem ov_ge (hu : X.A.units + 64 < cLine) : OpR X (compareOp .GtE) (rV X geU) :=
  ov_ord (g := fun a b => !ltD a b) (fun p q r h => ordU_some (G := geU) (fun p q => by unfold geU; rfl) h) (fun a b s u v as bs Q E r1 r2 h hn hu q => PySem.W.ge_data r1 r2 h hn hu q) hu
theorem ltD_num (i j : Int) : ltD (.num i) (.num j) = decide (i < j) := by
  unfold ltD
  simp only [NestedKey.data]
  exact PySem.W.dataLt_int i j
theorem alD_num (i j : Int) : alD (.num i) (.num j) = true := by
  unfold alD
  simp only [NestedKey.data, PySem.W.alike]
/-- is None, is not None -/
def isNU : U → Option U
  | .im d => some (.bl (isNoneD d))
  | .bl _ => some (.bl false)
  | _ => none
def notNU : U → Option U
  | .im d => some (.bl (!isNoneD d))
  | .bl _ => some (.bl true)
  | _ => none
theorem none_iff {K : PySem.W.Frag} {H : Hp} {x : V} {d : D} (h : IV K H x d) : decide (x = .non) = isNoneD d := by
  cases d with
  | none => cases IV.of_none h; rfl
  | num i => cases IV.of_num h; rfl
  | text z =>
    have q := h.dp
    simp only [NestedKey.data] at q
    cases q
    rfl
  | tup ks =>
    obtain ⟨a, xs, rfl, _⟩ := h.of_tup
    rfl
theorem ov_isN {e : Expr} {pos pos' : Pos} {j} {f : Sh → Option U} {al : List Nat} (h : EV X e f al) : EV X (.Compare e [.Is] [.Constant .none j pos'] pos) (f1 isNU f) [] :=
  pe_w (pe_cmpR op_isN h pe_non (nomark _)) fun σ H Q ⟨τ, u, hr, hf, q⟩ => by
    obtain ⟨p, e1, e2⟩ := bind_some hf
    refine ⟨τ, p, hr, e1, fun x H1 s1 u1 _ => ⟨rfl, ?_⟩⟩
    unfold isNU at e2
    split at e2
    · cases e2
      rw [none_iff u1]
      exact q _ H1 s1 rfl fun m => by cases m
    · cases e2
      cases u1
      exact q _ H1 s1 rfl fun m => by cases m
    · cases e2
theorem ov_notN {e : Expr} {pos pos' : Pos} {j} {f : Sh → Option U} {al : List Nat} (h : EV X e f al) : EV X (.Compare e [.IsNot] [.Constant .none j pos'] pos) (f1 notNU f) [] :=
  pe_w (pe_cmpR op_notN h pe_non (nomark _)) fun σ H Q ⟨τ, u, hr, hf, q⟩ => by
    obtain ⟨p, e1, e2⟩ := bind_some hf
    refine ⟨τ, p, hr, e1, fun x H1 s1 u1 _ => ⟨rfl, ?_⟩⟩
    unfold notNU at e2
    split at e2
    · cases e2
      rw [none_iff u1]
      exact q _ H1 s1 rfl fun m => by cases m
    · cases e2
      cases u1
      exact q _ H1 s1 rfl fun m => by cases m
    · cases e2
end
end VL

set_option Elab.async false
set_option linter.all false
set_option maxRecDepth 100000
set_option maxHeartbeats 4000000
/-! VLd: subscripts, slices, built-in calls, methods, by values. -/
namespace VL
open PySem L2

/-! ### chains of two comparisons -/
def fChain (g g' : U → U → Option U) (fa fb fc : Sh → Option U) : Sh → Option U := fun τ => (fa τ).bind fun x => (fb τ).bind fun y => (g x y).bind fun r => (isB r).bind fun b => if b = true then (fc τ).bind fun z => g' y z else some (.bl false)
section
variable {X : Cx} {a b c : Expr} {pos : Pos}
theorem chain_w {g g' : U → U → Option U} {fa fb fc : Sh → Option U} {ala alb alc : List Nat} {σ : St} {H : Hp} {Q : VK} (h : tV X (fChain g g' fa fb fc) [] σ H Q) : tChain (rV X g) (rV X g') (tV X fa ala) (tV X fb alb) (tV X fc alc) σ H Q := by
  obtain ⟨τ, u, hr, hf, q⟩ := h
  obtain ⟨p, e1, hf1⟩ := bind_some hf
  obtain ⟨p', e2, hf2⟩ := bind_some hf1
  obtain ⟨r, e3, hf3⟩ := bind_some hf2
  obtain ⟨k, e4, hf4⟩ := bind_some hf3
  have e5 := isB_some e4
  subst e5
  refine ⟨τ, p, hr, e1, fun x H1 s1 u1 _ => ⟨τ, p', hr.same s1, e2, fun y H2 s2 u2 _ => ⟨p, p', _, u1.same s2, u2, e3, fun v H3 s3 u3 _ => ⟨k, u3, ?_⟩⟩⟩⟩
  cases k with
  | true =>
    rw [if_pos rfl] at hf4 ⊢
    obtain ⟨z, e6, hf5⟩ := bind_some hf4
    refine ⟨τ, z, hr.same ((s1.trans s2).trans s3), e6, fun w' H4 s4 u4 _ => ⟨p', z, u, (u2.same s3).same s4, u4, hf5, fun v' H5 s5 u5 f5 => ?_⟩⟩
    refine q v' H5 ((((s1.trans s2).trans s3).trans s4).trans s5) u5 fun m => .inl ?_
    obtain ⟨a, rfl, ha⟩ := f5 m
    exact ⟨a, rfl, (((s1.trans s2).trans s3).trans s4).free ha⟩
  | false =>
    rw [if_neg Bool.false_ne_true] at hf4 ⊢
    cases hf4
    exact q _ H3 ((s1.trans s2).trans s3) rfl fun m => by cases m
theorem ev_chain {op op' : CmpOp} {g g' : U → U → Option U} {fa fb fc : Sh → Option U} {ala alb alc : List Nat} (ho : OpR X (compareOp op) (rV X g)) (ho' : OpR X (compareOp op') (rV X g')) (ha : EV X a fa ala) (hb : EV X b fb alb) (hc : EV X c fc alc)
    (hm : lastMarks [op, op'] [b, c] = false := by with_unfolding_all rfl) : EV X (.Compare a [op, op'] [b, c] pos) (fChain g g' fa fb fc) [] :=
  pe_w (pe_chain ho ho' ha hb hc hm) fun _ _ _ h => chain_w h
theorem tv_chain {op op' : CmpOp} {g g' : U → U → Option U} {fa fb fc : Sh → Option U} {ala alb alc : List Nat} (ho : OpR X (compareOp op) (rV X g)) (ho' : OpR X (compareOp op') (rV X g')) (ha : EV X a fa ala) (hb : EV X b fb alb) (hc : EV X c fc alc)
    (hm : lastMarks [op, op'] [b, c] = false := by with_unfolding_all rfl) : TV X (.Compare a [op, op'] [b, c] pos) (fB (fChain g g' fa fb fc)) :=
  pt_w (pt_chain ho ho' ha hb hc hm) fun σ H Q ⟨τ, k, hr, hf, q⟩ => by
    obtain ⟨u, e1, e2⟩ := bind_some hf
    have e3 := isB_some e2
    subst e3
    exact chain_w ⟨τ, .bl k, hr, e1, fun v H' s1 u1 _ => ⟨k, u1, q H' s1⟩⟩
end

/-! ### in, not in -/
def isNum : D → Bool
  | .num _ => true
  | _ => false
def inU : U → U → Option U
  | .im a, .im (.tup ds) => if isNum a = true ∧ ds.all isNum = true then some (.bl (decide (a ∈ ds))) else none
  | .im (.tup k), .dc kvs => some (.bl (lookD kvs (.tup k)).isSome)
  | _, _ => none
def ninU (x y : U) : Option U := (inU x y).bind fun r => (isB r).map fun b => .bl !b
theorem flat_num {K : PySem.W.Frag} {H : Hp} {v : V} {d : D} (h : IV K H v d) (n : isNum d = true) : ∃ i, d = .num i ∧ v = .int i := by
  cases d with
  | num i => exact ⟨i, rfl, IV.of_num h⟩
  | _ => cases n
theorem inV_num {K : PySem.W.Frag} {H : Hp} {i : Int} : ∀ {xs : List V} {ds : List D}, IVs K H xs ds → ds.all isNum = true → xs.all flatV = true ∧ inV (.int i) xs = decide (NestedKey.num i ∈ ds)
  | _, _, .nil, _ => ⟨rfl, rfl⟩
  | _ :: xs, _ :: ds, .cons a b, h => by
    rw [List.all_cons, Bool.and_eq_true] at h
    obtain ⟨j, rfl, rfl⟩ := flat_num a h.1
    obtain ⟨h1, h2⟩ := inV_num (i := i) b h.2
    refine ⟨by rw [List.all_cons, h1]; rfl, ?_⟩
    have e : inV (.int i) (.int j :: xs) = (eqV (.int j) (.int i) || inV (.int i) xs) := by
      unfold inV
      rw [List.any_cons]
    rw [e, h2]
    have e2 : eqV (.int j) (.int i) = decide (j = i) := by
      show (j == i) = decide (j = i)
      exact beq_dec' j i
    rw [e2, Bool.eq_iff_iff, Bool.or_eq_true, decide_eq_true_eq, decide_eq_true_eq, decide_eq_true_eq, List.mem_cons]
    constructor
    · rintro (e | e)
      · exact .inl (by rw [e])
      · exact .inr e
    · rintro (e | e)
      · injection e with e
        exact .inl e.symm
      · exact .inr e
section
variable {X : Cx}
theorem ov_in (hu : X.A.units + 64 < cLine) : OpR X (compareOp .In) (rV X inU) := by
  intro pins s σ H x y v u Q I rx ry ⟨p, q, r, ux, uy, hg, k⟩
  unfold inU at hg
  split at hg
  · split at hg
    · rename_i a ds hc
      cases hg
      obtain ⟨i, rfl, rfl⟩ := flat_num ux hc.1
      obtain ⟨b, xs, rfl, ht, hs⟩ := IV.of_tup uy
      obtain ⟨h1, h2⟩ := inV_num (i := i) hs hc.2
      exact op_in_seq pins s σ H _ _ v u Q I rx ry ⟨b, xs, rfl, .inr ht, rfl, h1, by rw [h2]; exact k _ H (Same.refl H) rfl fun m => by cases m⟩
    · cases hg
  · rename_i ks kvs
    cases hg
    obtain ⟨b, ys, rfl, _⟩ := IV.of_tup ux
    obtain ⟨a, rfl, hd⟩ := uy
    cases rx
    cases ry
    obtain ⟨h0, h1, xs, d, hp, _⟩ := hd.lib I
    have e : (atKey xs (NestedKey.tup ks)).isSome = (lookD kvs (.tup ks)).isSome := by
      rcases ent_look (k := .tup ks) hp with ⟨e1, e2⟩ | ⟨_, _, e1, e2, _⟩ <;> rw [e1, e2] <;> rfl
    exact wpAny_in_heap (units8 hu) (key_is I ux) h0 d ⟨.bl _, H, I.tok _, by rw [e]; rfl, k _ H (Same.refl H) rfl fun m => by cases m⟩
  · cases hg
theorem ov_nin (hu : X.A.units + 64 < cLine) : OpR X (compareOp .NotIn) (rV X ninU) := by
  intro pins s σ H x y v u Q I rx ry ⟨p, q, r, ux, uy, hg, k⟩
  obtain ⟨r1, hg1, hg2⟩ := bind_some hg
  unfold inU at hg1
  split at hg1
  · split at hg1
    · rename_i a ds hc
      cases hg1
      cases hg2
      obtain ⟨i, rfl, rfl⟩ := flat_num ux hc.1
      obtain ⟨b, xs, rfl, ht, hs⟩ := IV.of_tup uy
      obtain ⟨h1, h2⟩ := inV_num (i := i) hs hc.2
      exact op_notIn_seq pins s σ H _ _ v u Q I rx ry ⟨b, xs, rfl, .inr ht, rfl, h1, by rw [if_pos rfl, h2]; exact k _ H (Same.refl H) rfl fun m => by cases m⟩
    · cases hg1
  · rename_i ks kvs
    cases hg1
    cases hg2
    obtain ⟨b, ys, rfl, _⟩ := IV.of_tup ux
    obtain ⟨a, rfl, hd⟩ := uy
    cases rx
    cases ry
    obtain ⟨h0, h1, xs, d, hp, _⟩ := hd.lib I
    have e : (atKey xs (NestedKey.tup ks)).isSome = (lookD kvs (.tup ks)).isSome := by
      rcases ent_look (k := .tup ks) hp with ⟨e1, e2⟩ | ⟨_, _, e1, e2, _⟩ <;> rw [e1, e2] <;> rfl
    show wpAny _ _ (do return Value.bool (!(← contains (.ref a) (.ref b)))) _ _ s
    exact wpAny_bind (wpAny_contains_heap (units8 hu) (key_is I ux) h0 d (wpAny_pure ⟨.bl _, H, I.tok _, by rw [e]; rfl, k _ H (Same.refl H) rfl fun m => by cases m⟩))
  · cases hg1
end

/-! ### subscripts -/
theorem IVs.atI {K : PySem.W.Frag} {H : Hp} {xs : List V} {ds : List D} {i : Int} {d : D} (h : IVs K H xs ds) (e : atI ds i = some d) : ∃ v, L2.atI xs i = some v ∧ IV K H v d := by
  unfold L2.atI at e ⊢
  rw [h.length]
  cases q : ixN ds.length i with
  | none => rw [q] at e; cases e
  | some j =>
    rw [q] at e
    exact h.get e
def ixU : U → U → Option U
  | .im (.tup ds), .im (.num i) => (atI ds i).map .im
  | .ls ds, .im (.num i) => (atI ds i).map .im
  | .dc kvs, .im (.tup k) => (lookD kvs (.tup k)).map wU
  | _, _ => none
section
variable {X : Cx} {a b : Expr} {pos : Pos}
theorem ixv (hu : X.A.units + 64 < cLine) : IxR X (rV X ixU) := by
  intro value slice pins s σ H x y v u Q I rx ry ⟨p, q, r, ux, uy, hg, k⟩ hs
  unfold ixU at hg
  split at hg
  · obtain ⟨d, e, rfl⟩ := Option.map_eq_some_iff.mp hg
    obtain ⟨c, xs, rfl, ht, hx⟩ := IV.of_tup ux
    cases IV.of_num uy
    obtain ⟨z, e1, e2⟩ := hx.atI e
    exact ix_tup value slice pins s σ H _ _ v u Q I rx ry ⟨c, xs, _, z, rfl, rfl, ht, e1, k z H (Same.refl H) e2 fun m => by cases m⟩ hs
  · obtain ⟨d, e, rfl⟩ := Option.map_eq_some_iff.mp hg
    obtain ⟨c, xs, rfl, ht, hx⟩ := ux
    cases IV.of_num uy
    obtain ⟨z, e1, e2⟩ := hx.atI e
    exact ix_list value slice pins s σ H _ _ v u Q I rx ry ⟨c, xs, _, z, rfl, rfl, SqL.of ht, e1, k z H (Same.refl H) e2 fun m => by cases m⟩ hs
  · rename_i kvs ks
    obtain ⟨wv, e, rfl⟩ := Option.map_eq_some_iff.mp hg
    obtain ⟨c, rfl, hd⟩ := ux
    obtain ⟨b, ys, rfl, _⟩ := IV.of_tup uy
    cases rx
    cases ry
    obtain ⟨h0, h1, xs, d, hp, _⟩ := hd.lib I
    rcases ent_look (k := .tup ks) hp with ⟨e1, e2⟩ | ⟨wv', pv, e1, e2, _, z, rz, wz⟩
    · rw [e1] at e; cases e
    · rw [e1] at e
      cases e
      exact PyProof.Rows.subscriptTail_builtinR (x := pv.2) d.typeIs PySem.F.slot_dict_getitem.lookup
        (wpAny_getItem_heap (Q := fun r s' => r = pv.2 ∧ EP X pins σ Q r s') (units8 hu) (key_is I uy) d e2 ⟨rfl, z, H, I.tok _, rz, k z H (Same.refl H) (wU_uv wz) fun m => by rw [wU_mut] at m; cases m⟩) hs
  · cases hg
theorem ev_ix {fa fb : Sh → Option U} {ala alb : List Nat} (hu : X.A.units + 64 < cLine) (ha : EV X a fa ala) (hb : EV X b fb alb) (hs : PlainIx b := by exact fun _ _ => rfl) : EV X (.Subscript a b pos) (f2 ixU fa fb) [] :=
  pe_w (pe_ix (ixv hu) ha hb hs) fun _ _ _ h => two_w h
/-- e[:k] -/
def cutD (ds : List D) (i : Int) : List D := ds.take (HT.sIx ds.length ds.length (some i))
def cutU : U → U → Option U
  | .im (.tup ds), .im (.num i) => some (.im (.tup (cutD ds i)))
  | .ls ds, .im (.num i) => some (.ls (cutD ds i))
  | _, _ => none
theorem cutV_to (xs : List V) (i : Int) : cutV xs none (some i) = xs.take (HT.sIx xs.length xs.length (some i)) := by
  unfold cutV
  rw [HT.sIx_none, List.drop_zero, Nat.sub_zero]
theorem ev_cut {fa fb : Sh → Option U} {ala alb : List Nat} {p2 : Pos} (ha : EV X a fa ala) (hb : EV X b fb alb) : EV X (.Subscript a (.Slice none (some b) none p2) pos) (f2 cutU fa fb) [] :=
  pe_w (pe_slice (SlR.or sl_tupA sl_list) ha po_none (po_some hb)) fun σ H Q ⟨τ, u, hr, hf, q⟩ => by
    obtain ⟨p, e1, hf1⟩ := bind_some hf
    obtain ⟨p', e2, hf2⟩ := bind_some hf1
    refine ⟨τ, p, hr, e1, fun x H1 s1 u1 fr1 => ⟨τ, p', hr.same s1, e2, fun y H2 s2 u2 fr2 => ?_⟩⟩
    have v1 := u1.same s2
    have s12 := s1.trans s2
    clear hf hf1 e1 e2 fr1 fr2 u1
    unfold cutU at hf2
    split at hf2
    · rename_i ds i
      cases hf2
      obtain ⟨c, xs, rfl, ht, hx⟩ := IV.of_tup v1
      cases IV.of_num u2
      have hd : NestedKey.depthAll (cutD ds i) ≤ 7 := by
        have z : (NestedKey.tup ds).depth ≤ 8 := IV.dep v1
        simp only [NestedKey.depth] at z
        exact depth_all fun d m => by
          have := depth_mem (List.mem_of_mem_take m)
          omega
      refine ⟨i, rfl, .inl ⟨c, xs, rfl, ht, fun ⟨_, e⟩ => ?_, fun _ p np => ?_⟩⟩
      · refine q _ H2 s12 ?_ fun m => by cases m
        have e' : cutD ds i = ds := by
          unfold cutD
          rw [hx.length] at e
          rw [e, List.take_length]
        rw [e']
        exact v1
      · have sp := laid_same (o := .tup (cutV xs none (some i))) np
        refine q _ _ (s12.trans sp) (IV.tup (SqT.of upd_same) ?_ hd) fun m => by cases m
        rw [cutV_to, hx.length]
        exact (hx.take _).keep (Same.tk (by rw [cutV_to, hx.length] at sp; exact sp))
    · rename_i ds i
      cases hf2
      obtain ⟨c, xs, rfl, ht, hx⟩ := v1
      cases IV.of_num u2
      refine ⟨i, rfl, .inr ⟨c, xs, rfl, SqL.of ht, fun p np => ?_⟩⟩
      have sp := laid_same (o := .lst (cutV xs none (some i))) np
      refine q _ _ (s12.trans sp) ⟨p, _, rfl, upd_same, ?_⟩ fun _ => .inl ⟨p, rfl, s12.free np⟩
      rw [cutV_to, hx.length]
      exact (hx.take _).keep (Same.tk (by rw [cutV_to, hx.length] at sp; exact sp))
    · cases hf2
end

/-! ### calls of built-ins -/
def rVA (X : Cx) (g : List U → Option U) : List V → Hp → VK → Prop := fun xs H Q => ∃ us r, UVs X.prog X.w X.K H xs us ∧ g us = some r ∧ ∀ v H', Same H H' → UV X.prog X.w X.K H' v r → (mutU r = true → Fr H v) → Q v H'
def fCall (g : List U → Option U) (fa : Sh → Option (List U)) : Sh → Option U := fun τ => (fa τ).bind g
section
variable {X : Cx} {x : Str} {p pos : Pos} {e : Expr} {es : List Expr} {g : List U → Option U} {fa : Sh → Option (List U)} {id T : String}
theorem call_w {σ : St} {H : Hp} {Q : VK} (h : tV X (fCall g fa) [] σ H Q) : tCB (rVA X g) (tVA X fa) σ H Q := by
  obtain ⟨τ, u, hr, hf, q⟩ := h
  obtain ⟨us, e1, hf⟩ := bind_some hf
  refine ⟨τ, us, hr, e1, fun vs H1 s1 u1 => ⟨us, u, u1, hf, fun v H' s3 u3 f3 => ?_⟩⟩
  refine q v H' (s1.trans s3) u3 fun m => .inl ?_
  obtain ⟨a, rfl, ha⟩ := f3 m
  exact ⟨a, rfl, s1.free ha⟩
theorem ev_callB (hc : CallR X (.builtin id) (rVA X g)) (hg : Gl X x) (hm : X.mg x = none) (hv : bootBuiltins x = some (.builtin id)) (ha : AV X (e :: es) fa) (hn : x ≠ "__name__" := by decide) (hdb : (x == ("__debug__" : Str)) = false := by decide)
    (he : starEach (e :: es) X.env = (false, eval e X.env) :: starEach es X.env := by rfl) (hpl : (backTo pos (starEach es X.env)).any (·.1) = false := by rfl) : EV X (.Call (.Name x p) (e :: es) [] pos) (fCall g fa) [] :=
  pe_w (pe_callB hc hg hm hv ha hn hdb he hpl) fun _ _ _ h => call_w h
theorem ev_callTy (hc : CallR X (.type T) (rVA X g)) (hg : Gl X x) (hm : X.mg x = none) (hv : bootBuiltins x = some (.type T)) (ha : AV X (e :: es) fa) (hn : x ≠ "__name__" := by decide) (hdb : (x == ("__debug__" : Str)) = false := by decide)
    (he : starEach (e :: es) X.env = (false, eval e X.env) :: starEach es X.env := by rfl) (hpl : (backTo pos (starEach es X.env)).any (·.1) = false := by rfl) : EV X (.Call (.Name x p) (e :: es) [] pos) (fCall g fa) [] :=
  pe_w (pe_callTy hc hg hm hv ha hn hdb he hpl) fun _ _ _ h => call_w h
end
theorem uvs1 {P : Program} {w : World} {K : PySem.W.Frag} {H : Hp} {xs : List V} {u : U} (h : UVs P w K H xs [u]) : ∃ x, xs = [x] ∧ UV P w K H x u := by
  cases h with
  | cons a b => cases b; exact ⟨_, rfl, a⟩
def lenU : List U → Option U
  | [.im (.tup ds)] => some (.im (.num ds.length))
  | [.ls ds] => some (.im (.num ds.length))
  | _ => none
def tupU : List U → Option U
  | [.im (.tup ds)] => some (.im (.tup ds))
  | [.ls ds] => if NestedKey.depthAll ds ≤ 7 then some (.im (.tup ds)) else none
  | _ => none
def listU : List U → Option U
  | [.im (.tup ds)] => some (.ls ds)
  | [.ls ds] => some (.ls ds)
  | _ => none
def intU : List U → Option U
  | [.im (.num i)] => some (.im (.num i))
  | _ => none
section
variable {X : Cx}
theorem ca_len : CallR X (.builtin "len") (rVA X lenU) := by
  intro pins s σ H xs us Q I r ⟨ws, u, uv, hg, k⟩
  unfold lenU at hg
  split at hg
  · rename_i ds
    cases hg
    obtain ⟨x, rfl, hx⟩ := uvs1 uv
    obtain ⟨a, ys, rfl, ht, hy⟩ := IV.of_tup hx
    exact call_len_seq pins s σ H _ us Q I r ⟨a, ys, rfl, .inr ht, by rw [hy.length]; exact k _ H (Same.refl H) IV.num fun m => by cases m⟩
  · rename_i ds
    cases hg
    obtain ⟨x, rfl, a, ys, rfl, ht, hy⟩ := uvs1 uv
    exact call_len_seq pins s σ H _ us Q I r ⟨a, ys, rfl, .inl (SqL.of ht), by rw [hy.length]; exact k _ H (Same.refl H) IV.num fun m => by cases m⟩
  · cases hg
theorem ca_tuple : CallR X (.type "tuple") (rVA X tupU) := by
  intro pins s σ H xs us Q I r ⟨ws, u, uv, hg, k⟩
  unfold tupU at hg
  split at hg
  · rename_i ds
    cases hg
    obtain ⟨x, rfl, hx⟩ := uvs1 uv
    obtain ⟨a, ys, rfl, ht, hy⟩ := IV.of_tup hx
    exact call_tuple_of pins s σ H _ us Q I r ⟨a, ys, rfl, .inr ⟨ht, k _ H (Same.refl H) hx fun m => by cases m⟩⟩
  · rename_i ds
    split at hg
    · rename_i hd
      cases hg
      obtain ⟨x, rfl, a, ys, rfl, ht, hy⟩ := uvs1 uv
      refine call_tuple_of pins s σ H _ us Q I r ⟨a, ys, rfl, .inl ⟨SqL.of ht, fun p np => ?_⟩⟩
      have sp := laid_same (o := .tup ys) np
      exact k _ _ sp (IV.tup (SqT.of upd_same) (hy.keep (Same.tk sp)) hd) fun m => by cases m
    · cases hg
  · cases hg
theorem ca_list : CallR X (.type "list") (rVA X listU) := by
  intro pins s σ H xs us Q I r ⟨ws, u, uv, hg, k⟩
  unfold listU at hg
  split at hg
  · rename_i ds
    cases hg
    obtain ⟨x, rfl, hx⟩ := uvs1 uv
    obtain ⟨a, ys, rfl, ht, hy⟩ := IV.of_tup hx
    refine call_list_of pins s σ H _ us Q I r ⟨a, ys, rfl, .inr ht, fun p np => ?_⟩
    have sp := laid_same (o := .lst ys) np
    exact k _ _ sp ⟨p, ys, rfl, upd_same, hy.keep (Same.tk sp)⟩ fun _ => ⟨p, rfl, np⟩
  · rename_i ds
    cases hg
    obtain ⟨x, rfl, a, ys, rfl, ht, hy⟩ := uvs1 uv
    refine call_list_of pins s σ H _ us Q I r ⟨a, ys, rfl, .inl (SqL.of ht), fun p np => ?_⟩
    have sp := laid_same (o := .lst ys) np
    exact k _ _ sp ⟨p, ys, rfl, upd_same, hy.keep (Same.tk sp)⟩ fun _ => ⟨p, rfl, np⟩
  · cases hg
theorem ca_int : CallR X (.type "int") (rVA X intU) := by
  intro pins s σ H xs us Q I r ⟨ws, u, uv, hg, k⟩
  unfold intU at hg
  split at hg
  · cases hg
    obtain ⟨x, rfl, hx⟩ := uvs1 uv
    cases IV.of_num hx
    exact call_int1 pins s σ H _ us Q I r (.inl ⟨_, rfl, k _ H (Same.refl H) IV.num fun m => by cases m⟩)
  · cases hg
end
end VL

set_option Elab.async false
set_option linter.all false
set_option maxRecDepth 100000
set_option maxHeartbeats 4000000
/-! VLe: least, greatest, sorted; dicts: new, get, keys, of pairs; kinds. -/
namespace VL
open PySem L2

/-! ### min, max -/
def AllAl (ds : List D) : Prop := (∀ x ∈ ds, ∀ y ∈ ds, alD x y = true) ∧ ∀ x ∈ ds, isNoneD x = false
instance (ds : List D) : Decidable (AllAl ds) := by unfold AllAl; infer_instance
def minDD (d : D) (ds : List D) : D := ds.foldl (fun a y => if ltD y a = true then y else a) d
def maxDD (d : D) (ds : List D) : D := ds.foldl (fun a y => if ltD a y = true then y else a) d
theorem minDD_data : ∀ (ds : List D) (d : D), (minDD d ds).data = PySem.W.minD d.data (ds.map NestedKey.data)
  | [], _ => rfl
  | e :: ds, d => by
    show (minDD (if ltD e d = true then e else d) ds).data = PySem.W.minD (if PySem.W.dataLt e.data d.data then e.data else d.data) (ds.map NestedKey.data)
    rw [minDD_data ds]
    congr 1
    show NestedKey.data (if ltD e d = true then e else d) = if ltD e d = true then e.data else d.data
    split <;> rfl
theorem maxDD_data : ∀ (ds : List D) (d : D), (maxDD d ds).data = PySem.W.maxD d.data (ds.map NestedKey.data)
  | [], _ => rfl
  | e :: ds, d => by
    show (maxDD (if ltD d e = true then e else d) ds).data = PySem.W.maxD (if PySem.W.dataLt d.data e.data then e.data else d.data) (ds.map NestedKey.data)
    rw [maxDD_data ds]
    congr 1
    show NestedKey.data (if ltD d e = true then e else d) = if ltD d e = true then e.data else d.data
    split <;> rfl
theorem data_inj {a b : D} (h : a.data = b.data) : a = b := by
  have h1 := eqv_dec a b
  have h2 := eqv_dec b b
  rw [h, h2] at h1
  simpa using h1.symm
theorem AllAl.lib {ds : List D} (h : AllAl ds) : PySem.W.AlikeAll (ds.map NestedKey.data) := by
  refine ⟨fun x hx y hy => ?_, fun x hx => ?_⟩
  · obtain ⟨a, ha, rfl⟩ := List.mem_map.mp hx
    obtain ⟨b, hb, rfl⟩ := List.mem_map.mp hy
    exact h.1 a ha b hb
  · obtain ⟨a, ha, rfl⟩ := List.mem_map.mp hx
    exact not_none_data (h.2 a ha)
def minU : List U → Option U
  | [.ls (d :: ds)] => if AllAl (d :: ds) then some (.im (minDD d ds)) else none
  | _ => none
def maxU : List U → Option U
  | [.ls (d :: ds)] => if AllAl (d :: ds) then some (.im (maxDD d ds)) else none
  | _ => none
section
variable {X : Cx}
theorem IVs.reads {pins : List (Addr × Obj)} {σ : St} {H : Hp} {s : Shared} {xs : List V} {ds : List D} {its : List Value} (I : Inv X pins σ H s) (h : IVs X.K H xs ds) (r : Vals xs its) : ∃ as, ReadsAll s.heap its (ds.map NestedKey.data) as := by
  rw [← dats_map]
  exact Dp.readsAll I _ _ _ h.dps r
/-- an item of the list, known by what it reads as -/
theorem pick_item {pins : List (Addr × Obj)} {σ : St} {H : Hp} {s : Shared} {xs : List V} {ds : List D} {its : List Value} {h' : Heap} {i : Nat} {v : Value} {m : D} {bs : List Addr} (I : Inv X pins σ H s) (h : IVs X.K H xs ds) (r : Vals xs its)
    (hv : its[i]? = some v) (hk : ∀ b o, s.heap.get? b = some o → h'.get? b = some o) (hm : Reads h' v m.data bs) (al : ∀ d ∈ ds, PySem.W.alike d.data m.data = true) : ∃ z, RelV z v ∧ IV X.K H z m := by
  obtain ⟨z, hz, rz⟩ : ∃ z, xs[i]? = some z ∧ RelV z v := by
    have hi : i < its.length := (List.getElem?_eq_some_iff.mp hv).1
    have hl := r.length
    obtain ⟨z, hz⟩ : ∃ z, xs[i]? = some z := ⟨xs[i]'(by omega), List.getElem?_eq_getElem _⟩
    obtain ⟨u, hu, ru⟩ := r.get hz
    rw [hv] at hu
    cases hu
    exact ⟨z, hz, ru⟩
  obtain ⟨d, hd, iv⟩ := h.get' hz
  obtain ⟨as, hr⟩ := Dp.reads I _ _ _ iv.dp rz
  have e := PySem.W.alike_unique _ _ v as bs (al d (List.mem_of_getElem? hd)) (PyProof.Rows.Reads.keeps hk hr) hm
  have e2 := data_inj e
  subst e2
  exact ⟨z, rz, iv⟩
theorem min_mem : ∀ (ds : List D) (d : D), minDD d ds ∈ d :: ds
  | [], d => List.mem_cons_self
  | e :: ds, d => by
    have h := min_mem ds (if ltD e d = true then e else d)
    show minDD (if ltD e d = true then e else d) ds ∈ d :: e :: ds
    by_cases c : ltD e d = true
    · rw [if_pos c] at h ⊢
      exact List.mem_cons_of_mem _ h
    · rw [if_neg c] at h ⊢
      rcases List.mem_cons.mp h with h | h
      · rw [h]; exact List.mem_cons_self
      · exact List.mem_cons_of_mem _ (List.mem_cons_of_mem _ h)
theorem max_mem : ∀ (ds : List D) (d : D), maxDD d ds ∈ d :: ds
  | [], d => List.mem_cons_self
  | e :: ds, d => by
    have h := max_mem ds (if ltD d e = true then e else d)
    show maxDD (if ltD d e = true then e else d) ds ∈ d :: e :: ds
    by_cases c : ltD d e = true
    · rw [if_pos c] at h ⊢
      exact List.mem_cons_of_mem _ h
    · rw [if_neg c] at h ⊢
      rcases List.mem_cons.mp h with h | h
      · rw [h]; exact List.mem_cons_self
      · exact List.mem_cons_of_mem _ (List.mem_cons_of_mem _ h)
theorem ca_min (hc : X.calm = true) (hu : X.A.units + 64 < cLine) : CallR X (.builtin "min") (rVA X minU) := by
  intro pins s σ H xs us Q I r ⟨ws, u, uv, hg, k⟩
  unfold minU at hg
  split at hg
  · rename_i d ds
    split at hg
    · rename_i hal
      cases hg
      obtain ⟨x, rfl, a, ys, rfl, ht, hy⟩ := uvs1 uv
      obtain ⟨u1, rfl, rfl⟩ := vals1 r
      obtain ⟨its, rv, pl, _⟩ := I.list (SqL.of ht)
      obtain ⟨as, hr⟩ := hy.reads I rv
      have hdep := hy.deps
      refine PySem.W.min_list_data (I.ok.hd hc) pl.isList (by simpa using hr) hal.lib ?_ fun i v h' tk bs hv hm hk => ?_
      · rw [← List.map_cons, ← dats_map, depth_datas]
        omega
      · rw [← minDD_data] at hm
        obtain ⟨z, rz, iz⟩ := pick_item I hy rv (by simpa using hv) hk hm fun e he => hal.1 e he _ (min_mem ds d)
        exact ⟨z, H, I.kept hk, rz, k z H (Same.refl H) iz fun m => by cases m⟩
    · cases hg
  · cases hg
theorem ca_max (hc : X.calm = true) (hu : X.A.units + 64 < cLine) : CallR X (.builtin "max") (rVA X maxU) := by
  intro pins s σ H xs us Q I r ⟨ws, u, uv, hg, k⟩
  unfold maxU at hg
  split at hg
  · rename_i d ds
    split at hg
    · rename_i hal
      cases hg
      obtain ⟨x, rfl, a, ys, rfl, ht, hy⟩ := uvs1 uv
      obtain ⟨u1, rfl, rfl⟩ := vals1 r
      obtain ⟨its, rv, pl, _⟩ := I.list (SqL.of ht)
      obtain ⟨as, hr⟩ := hy.reads I rv
      have hdep := hy.deps
      refine PySem.W.max_list_data (I.ok.hd hc) pl.isList (by simpa using hr) hal.lib ?_ fun i v h' tk bs hv hm hk => ?_
      · rw [← List.map_cons, ← dats_map, depth_datas]
        omega
      · rw [← maxDD_data] at hm
        obtain ⟨z, rz, iz⟩ := pick_item I hy rv (by simpa using hv) hk hm fun e he => hal.1 e he _ (max_mem ds d)
        exact ⟨z, H, I.kept hk, rz, k z H (Same.refl H) iz fun m => by cases m⟩
    · cases hg
  · cases hg
end

/-! ### sorted -/
def isTup1 : D → Bool
  | .tup (_ :: _) => true
  | _ => false
def SrtOk (ds : List D) : Prop := (∀ x ∈ ds, ∀ y ∈ ds, alD x y = true) ∧ ((∀ x ∈ ds, isTup1 x = true) ∨ ∀ x ∈ ds, isNum x = true)
instance (ds : List D) : Decidable (SrtOk ds) := by unfold SrtOk; infer_instance
def srtD (ds : List D) : List D := ds.mergeSort (PySem.W.dataLe false NestedKey.data)
theorem SrtOk.al {ds : List D} (h : SrtOk ds) : PySem.W.AllAlike (ds.map NestedKey.data) := by
  intro x hx y hy
  obtain ⟨a, ha, rfl⟩ := List.mem_map.mp hx
  obtain ⟨b, hb, rfl⟩ := List.mem_map.mp hy
  exact h.1 a ha b hb
theorem SrtOk.so {ds : List D} (h : SrtOk ds) : PySem.W.Sortable (ds.map NestedKey.data) := by
  rcases h.2 with h | h
  · refine .inl fun x hx => ?_
    obtain ⟨a, ha, rfl⟩ := List.mem_map.mp hx
    have q := h a ha
    cases a with
    | tup ks =>
      cases ks with
      | nil => cases q
      | cons e es => exact ⟨e.data, NestedKey.datas es, by simp only [NestedKey.data, NestedKey.datas]⟩
    | _ => cases q
  · refine .inr fun x hx => ?_
    obtain ⟨a, ha, rfl⟩ := List.mem_map.mp hx
    have q := h a ha
    cases a with
    | num i => exact ⟨(by simp only [NestedKey.data]; intro z; cases z), fun xs => by simp only [NestedKey.data]; intro z; cases z⟩
    | _ => cases q
def srtU : List U → Option U
  | [.ls ds] => if SrtOk ds then some (.ls (srtD ds)) else none
  | _ => none
section
variable {X : Cx}
def IE (K : PySem.W.Frag) (H : Hp) (v : Value) (d : D) : Prop := ∃ z, RelV z v ∧ IV K H z d
theorem each_iv {K : PySem.W.Frag} {H : Hp} : ∀ {xs : List V} {ds : List D} {its : List Value}, IVs K H xs ds → Vals xs its → PySem.W.EachIs (IE K H) its ds
  | _, _, _, .nil, .nil => .nil
  | _, _, _, .cons a b, .cons r t => .cons ⟨_, r, a⟩ (each_iv b t)
theorem iv_each {K : PySem.W.Frag} {H : Hp} : ∀ {ds : List D} {its : List Value}, PySem.W.EachIs (IE K H) its ds → ∃ xs, Vals xs its ∧ IVs K H xs ds
  | _, _, .nil => ⟨[], .nil, .nil⟩
  | _, _, .cons ⟨z, r, a⟩ t => by
    obtain ⟨xs, h1, h2⟩ := iv_each t
    exact ⟨z :: xs, .cons r h1, .cons a h2⟩
theorem each_reads {pins : List (Addr × Obj)} {σ : St} {H : Hp} {s : Shared} (I : Inv X pins σ H s) : ∀ {ds : List D} {its : List Value}, PySem.W.EachIs (IE X.K H) its ds → PySem.W.EachIs (fun v b => ∃ as, Reads s.heap v (NestedKey.data b) as) its ds
  | _, _, .nil => .nil
  | _, _, .cons ⟨z, r, a⟩ t => .cons (Dp.reads I _ _ _ a.dp r) (each_reads I t)
theorem srtD_length (ds : List D) : (srtD ds).length = ds.length := by
  unfold srtD
  rw [List.length_mergeSort]
theorem ca_sorted (hu : X.A.units + 64 < cLine) : CallR X (.builtin "sorted") (rVA X srtU) := by
  intro pins s σ H xs us Q I r ⟨ws, u, uv, hg, k⟩
  unfold srtU at hg
  split at hg
  · rename_i ds
    split at hg
    · rename_i hso
      cases hg
      obtain ⟨x, rfl, a, ys, rfl, ht, hy⟩ := uvs1 uv
      obtain ⟨u1, rfl, rfl⟩ := vals1 r
      obtain ⟨its, rv, pl, hz⟩ := I.list (SqL.of ht)
      have ea := each_iv hy rv
      have hl : ds.length ≤ sizeLine := by rw [← hy.length]; exact hz
      refine PySem.W.sorted_data (enc := NestedKey.data) (R := IE X.K H) pl.isList ea (each_reads I ea) hso.al hso.so hl (fun d hd => ?_) fun out hol eo => ?_
      · have h1 := depth_mem hd
        have h2 := hy.deps
        rw [depth_data]
        omega
      · obtain ⟨zs, rz, iz⟩ := iv_each eo
        obtain ⟨ep, he'⟩ := PyProof.Rows.sortedAll_at s.heap its out.toArray
        have hlen : zs.length ≤ sizeLine := by rw [rz.length, hol]; exact hl
        have np : H (s.heap.objs.size + 1) = none := I.hok.fresh (Nat.le_succ _)
        have sp := laid_same (o := .lst zs) np
        exact ⟨.ref _, upd H (s.heap.objs.size + 1) (.lst zs), I.laid (t' := s.toks) (fun _ _ => PyProof.Rows.sortedAll_old) (Nat.le_succ _) ⟨hlen, out, ep, rz, he'⟩, rfl,
          k _ _ sp ⟨_, zs, rfl, upd_same, iz.keep (Same.tk sp)⟩ fun _ => ⟨_, rfl, np⟩⟩
    · cases hg
  · cases hg
end
end VL

set_option Elab.async false
set_option linter.all false
set_option maxRecDepth 100000
set_option maxHeartbeats 4000000
/-! VLf: dicts: new, get, keys, of pairs; kinds. -/
namespace VL
open PySem L2

/-! ### {} -/
section
variable {X : Cx} {pos : Pos}
theorem ev_dnew : EV X (.Dict [] [] pos) (fC (.dc [])) [] := ⟨fun pins s σ H Q I ⟨τ, u, hr, hf, q⟩ => by
  cases hf
  obtain ⟨o, I2, d⟩ := dc_empty I
  have np : H s.heap.objs.size = none := I.hok.fresh (Nat.le_refl _)
  exact wpAny_Dict_empty ⟨.ref s.heap.objs.size, _, I2, rfl, q _ _ (laid_same np) ⟨_, rfl, d⟩ fun _ => .inl ⟨_, rfl, np⟩⟩⟩

/-! ### d.get(k, x) -/
def getU : U → U → U → Option U
  | .dc kvs, .im (.tup k), .im z => some (((lookD kvs (.tup k)).map wU).getD (.im z))
  | _, _, _ => none
def f3 (g : U → U → U → Option U) (fa fb fc : Sh → Option U) : Sh → Option U := fun τ => (fa τ).bind fun x => (fb τ).bind fun y => (fc τ).bind fun z => g x y z
theorem ev_get2 {o e f : Expr} {apos cpos : Pos} {fo fe ff : Sh → Option U} {alo ale alf : List Nat} (hu : X.A.units + 64 < cLine) (ho : EV X o fo alo) (he : EV X e fe ale) (hf' : EV X f ff alf) (m : M2 X o "get" apos e f cpos) :
    EV X (.Call (.Attribute o "get" apos) [e, f] [] cpos) (f3 getU fo fe ff) [] := by
  refine ⟨fun pins s σ H Q I ⟨τ, r, hr, hf, q⟩ => ?_⟩
  obtain ⟨p1, e1, hf1⟩ := bind_some hf
  obtain ⟨p2, e2, hf2⟩ := bind_some hf1
  obtain ⟨p3, e3, hf3⟩ := bind_some hf2
  clear hf hf1 hf2
  unfold getU at hf3
  split at hf3
  · rename_i kvs k z
    cases hf3
    have h0 := ho.run pins s σ H (fun v H' => Same H H' ∧ UV X.prog X.w X.K H' v (.dc kvs)) I ⟨τ, _, hr, e1, fun v H' s1 u1 _ => ⟨s1, u1⟩⟩
    refine wpAny_Call_method m.base m.few m.line PySem.F.plainAttrs_dict PySem.F.slot_dict_get PySem.F.type_dict_get (thn h0 fun u s1 ⟨x, H1, I1, rx, sm1, a, ex, d1⟩ => ?_)
    subst ex
    obtain rfl : u = Value.ref a := rx
    obtain ⟨_, _, _, ⟨od, _, _, eo, ed, _⟩, _⟩ := d1.lib I1
    refine ⟨⟨od, eo, ed.1⟩, fun b eb => by cases eb; exact ⟨od, eo, ed.2.1⟩, ?_⟩
    rw [m.trees]
    have h1 := he.run pins s1 σ H1 (fun v H' => Same H1 H' ∧ UV X.prog X.w X.K H' v (.im (.tup k))) I1 ⟨τ, _, hr.same sm1, e2, fun v H' s1 u1 _ => ⟨s1, u1⟩⟩
    refine Calls.callWith_builtin rfl (Calls.evalArgs_plain (Calls.spliced_cons (thn h1 fun iv s2 ⟨y, H2, I2, ry, sm2, uy⟩ => ?_)))
    have h2 := hf'.run pins s2 σ H2 (fun v H' => Same H2 H' ∧ UV X.prog X.w X.K H' v (.im z)) I2 ⟨τ, _, hr.same (sm1.trans sm2), e3, fun v H' s1 u1 _ => ⟨s1, u1⟩⟩
    refine Calls.spliced_cons (thn h2 fun fv s3 ⟨zv, H3, I3, rz, sm3, uz⟩ => Calls.spliced_nil ?_)
    have uy3 : IV X.K H3 y (.tup k) := UV.same (P := X.prog) (w := X.w) sm3 (u := .im (.tup k)) uy
    have d3 : DcAt X.prog X.w X.K H3 a kvs := by
      have z := UV.same (P := X.prog) (w := X.w) (K := X.K) (sm2.trans sm3) (u := .dc kvs) (v := .ref a) ⟨a, rfl, d1⟩
      obtain ⟨b, eb, z⟩ := z
      cases eb
      exact z
    obtain ⟨b, ys, rfl, _⟩ := IV.of_tup uy3
    cases ry
    obtain ⟨hd0, _, xs, dd, hp, _⟩ := d3.lib I3
    have sm := (sm1.trans sm2).trans sm3
    refine call_meetsIn PySem.F.slot_dict_get dd.typeIs PySem.F.entry_dict_get (PySem.F.args_dict_get_3 _ _ _) (meetsH_dict_get_default (nestedKind X.prog X.w) a b hd0 fv) ⟨units8 hu, .tup k, xs, key_is I3 uy3, dd, ?_⟩
    rcases ent_look (k := .tup k) hp with ⟨g1, g2⟩ | ⟨wv, pv, g1, g2, _, zz, rzz, wz⟩
    · rw [g2]
      rw [g1] at q
      exact ⟨zv, H3, I3.tok _, rz, q _ _ sm uz fun m => by cases m⟩
    · rw [g2]
      rw [g1] at q
      exact ⟨zz, H3, I3.tok _, rzz, q _ _ sm (wU_uv wz) fun m => by
        have m' : mutU (wU wv) = true := m
        rw [wU_mut] at m'
        cases m'⟩
  · cases hf3

mutual
theorem reads_none {h : Heap} : ∀ (d : D) (v : Value) (as : List Addr), Reads h v d.data as → as = []
  | .none, v, as, r => by simp only [NestedKey.data] at r; cases r; rfl
  | .num i, v, as, r => by simp only [NestedKey.data] at r; cases r; rfl
  | .text x, v, as, r => by simp only [NestedKey.data] at r; cases r; rfl
  | .tup ks, v, as, r => by
    simp only [NestedKey.data] at r
    cases r with
    | tuple _ _ _ h4 => exact readsAll_none ks _ _ h4
theorem readsAll_none {h : Heap} : ∀ (ds : List D) (vs : List Value) (as : List Addr), ReadsAll h vs (NestedKey.datas ds) as → as = []
  | [], vs, as, r => by simp only [NestedKey.datas] at r; cases r; rfl
  | d :: ds, vs, as, r => by
    simp only [NestedKey.datas] at r
    cases r with
    | cons r1 r2 => rw [reads_none d _ _ r1, readsAll_none ds _ _ r2]; rfl
end
/-! ### d.keys(), sorted(d.keys()) -/
def keysObj (d : Addr) : Obj := { cls := .type "dict_keys", data := .fields #[.ref d] }
def tKeys (X : Cx) (f : Sh → Option U) : TE := fun σ H Q => ∃ τ kvs, ShRel X.prog X.w X.K H σ τ ∧ f τ = some (.dc kvs) ∧ ∀ p d H', Same H H' → DcAt X.prog X.w X.K H' d kvs → H' p = some (obO p (keysObj d)) → Q (.ref p) H'
theorem pe_keys {e : Expr} {apos cpos : Pos} {f : Sh → Option U} {al : List Nat} (he : EV X e f al) (hbase : attributeBase e "keys" X.env (eval e X.env) = eval e X.env := by rfl) (hline : (apos.endLine == cpos.line) = true := by rfl) :
    PE X (.Call (.Attribute e "keys" apos) [] [] cpos) (tKeys X f) := by
  refine ⟨fun pins s σ H Q I ⟨τ, kvs, hr, hf, q⟩ => ?_⟩
  have h0 := he.run pins s σ H (fun v H' => Same H H' ∧ UV X.prog X.w X.K H' v (.dc kvs)) I ⟨τ, _, hr, hf, fun v H' s1 u1 _ => ⟨s1, u1⟩⟩
  refine wpAny_Call_method (T := "dict") (id := "dict.keys") hbase rfl hline PySem.F.plainAttrs_dict PySem.F.slot_dict_keys PySem.F.type_dict_keys (thn h0 fun u s1 ⟨x, H1, I1, rx, sm1, a, ex, d1⟩ => ?_)
  subst ex
  obtain rfl : u = Value.ref a := rx
  obtain ⟨hd0, _, xs, dd, hp, _⟩ := d1.lib I1
  obtain ⟨od, es, ep, eo, ed, hdt, _⟩ := id dd
  refine ⟨⟨od, eo, ed.1⟩, fun b eb => by cases eb; exact ⟨od, eo, ed.2.1⟩, ?_⟩
  have np : H1 s1.heap.objs.size = none := I1.hok.fresh (Nat.le_refl _)
  have sp := laid_same (o := obO s1.heap.objs.size (keysObj a)) np
  have I2 : Inv X pins σ (upd H1 s1.heap.objs.size (obO s1.heap.objs.size (keysObj a))) { s1 with heap := s1.heap.push (keysObj a) } := I1.laid (t' := s1.toks) (fun b q e => Heap.get?_push_of_some _ e) (Nat.le_refl _) (obO_ok (Heap.get?_push_size _ rfl))
  have d2 : DcAt X.prog X.w X.K (upd H1 s1.heap.objs.size (obO s1.heap.objs.size (keysObj a))) a kvs := d1.keep (Same.tk sp) fun o e => sp _ _ e
  have fin : EP X pins σ Q (.ref s1.heap.objs.size) { s1 with heap := s1.heap.push (keysObj a) } := ⟨.ref s1.heap.objs.size, _, I2, rfl, q _ a _ (sm1.trans sp) d2 upd_same⟩
  show wpAny _ _ (callWith cpos (.builtin "dict.keys") [.ref a] [] []) _ X.xe s1
  exact method_meetsIn PySem.F.slot_dict_keys PySem.F.entry_dict_keys rfl (PySem.evalArgs_none ⟨rfl, ⟨od, eo, ed.1⟩, PySem.F.args_dict_keys_1 _, _, meets_dict_keys_raw a hd0, ⟨es, ep, od, eo, ed, hdt⟩, fin⟩)
def keysU : U → Option (List D)
  | .dc kvs => some (kvs.map (·.1))
  | _ => none
def fSK (f : Sh → Option U) : Sh → Option U := fun τ => (f τ).bind fun u => (keysU u).bind fun ks => if SrtOk ks then some (.ls (srtD ks)) else none
def rSK (X : Cx) : List V → Hp → VK → Prop := fun xs H Q => ∃ p d kvs, xs = [.ref p] ∧ DcAt X.prog X.w X.K H d kvs ∧ H p = some (obO p (keysObj d)) ∧ SrtOk (kvs.map (·.1)) ∧ ∀ q ys, H q = none → IVs X.K H ys (srtD (kvs.map (·.1))) → Q (.ref q) (upd H q (.lst ys))
theorem ents_keys {K : PySem.W.Frag} {H : Hp} : ∀ {kvs : List (D × W)} {xs : List (D × Addr × Value)} {its : List Value}, Paired (DEnt K H) kvs xs → its = xs.map (fun x => Value.ref x.2.1) → PySem.W.EachIs (IE K H) its (kvs.map (·.1))
  | _, _, _, .nil, e => by subst e; exact .nil
  | kv :: kvs, x :: xs, _, .cons r t, e => by
    subst e
    exact .cons ⟨.ref x.2.1, rfl, by show IV K H (.ref x.2.1) kv.1; rw [r.1]; exact r.2.1⟩ (ents_keys t rfl)
theorem cr_sortedKeys (hc : X.calm = true) (hu : X.A.units + 64 < cLine) : CallR X (.builtin "sorted") (rSK X) := by
  intro pins s σ H xs us Q I r ⟨p, d, kvs, e, dc, hk, so, q⟩
  subst e
  obtain ⟨u1, rfl, rfl⟩ := vals1 r
  obtain ⟨hd0, hlen, es0⟩ := dc.lib I
  obtain ⟨ents, dd, hp, hl2⟩ := es0
  obtain ⟨od, es, ep, eo, ed, hdt, hes, _, _⟩ := id dd
  have hv : PySem.W.KdlKeysView s.heap p d := ⟨keysObj d, (I.hok p _ hk).1, rfl, rfl⟩
  have hraw : s.heap.DictRaw d es ep := ⟨od, eo, ed, hdt⟩
  have hsz : es.size = kvs.length := by rw [size_of_entries hes, hl2]
  refine Calls.call_function_entry PyProof.Rows.kind_sorted PyProof.Rows.plain_sorted PyProof.Rows.entry_sorted (PyProof.Rows.args_sorted1 _) ?_
  unfold Builtin.«sorted»
  refine wpAny_bind (m := checkCount "sorted" 1 1 _) (wpAny_pure ?_)
  refine wpAny_bind (PySem.W.kdu_collect (A := X.A.in1) KdlSrc.rawKeys (I.ok.hd hc) ⟨hv, hraw⟩ (by rw [hsz]; exact hlen) fun h' tk acc hkeep hacc => ?_)
  have hal : acc.toList.length = kvs.length := by rw [Array.length_toList, hacc.1, hsz]
  refine wpAny_bind (wpAny_newList ?_ (by rw [hal]; exact hlen))
  have itsE : acc.toList = ents.map (fun x => Value.ref x.2.1) := by
    refine List.ext_getElem? fun j => ?_
    by_cases hj : j < es.size
    · have hj2 : j < acc.size := by rw [hacc.1]; exact hj
      have e1 : acc.toList[j]? = some acc[j] := by rw [Array.getElem?_toList, Array.getElem?_eq_getElem hj2]
      obtain ⟨_, e2⟩ := hacc.2 j acc[j] (Array.getElem?_eq_getElem hj2)
      have e3 := entry_at hes j
      rw [Array.getElem?_eq_getElem hj] at e3
      cases e4 : ents[j]? with
      | none => rw [e4] at e3; cases e3
      | some y =>
        rw [e4] at e3
        have e5 : es[j] = entryOfKey (nestedKind X.prog X.w) y := Option.some.inj e3
        rw [e1, List.getElem?_map, e4, e2, e5]
        rfl
    · rw [List.getElem?_eq_none (by rw [Array.length_toList, hacc.1]; omega), List.getElem?_eq_none (by rw [List.length_map, hl2, ← hsz]; omega)]
  have I1 : Inv X pins σ H { s with heap := h', toks := tk } := I.kept hkeep
  have ea : PySem.W.EachIs (IE X.K H) acc.toList (kvs.map (·.1)) := ents_keys hp itsE
  have I2 : Inv X pins σ H { s with heap := h'.push { cls := .type "list", data := .seq acc.toList.toArray }, toks := tk } := I1.kept (t' := tk) fun b o e => Heap.get?_push_of_some _ e
  have er := each_reads I2 ea
  have nin : ∀ (ds : List D) (vs : List Value), PySem.W.EachIs (IE X.K H) vs ds → PySem.W.EachIs (fun v b => ∃ as, Reads (h'.push { cls := .type "list", data := .seq acc.toList.toArray }) v (NestedKey.data b) as ∧ h'.objs.size ∉ as) vs ds := by
    intro ds vs h
    induction h with
    | nil => exact .nil
    | cons a _ ih =>
      obtain ⟨z, r, iv⟩ := a
      obtain ⟨as, hr⟩ := Dp.reads I1 _ _ _ iv.dp r
      refine .cons ⟨as, PyProof.Rows.Reads.keeps (fun b o e => Heap.get?_push_of_some _ e) hr, fun m => ?_⟩ ih
      rw [reads_none _ _ _ hr] at m
      cases m
  have hlk : (kvs.map (·.1)).length ≤ sizeLine := by rw [List.length_map]; exact hlen
  have hg := PySem.W.list_sort_data (prog := X.prog) (w := X.w) (A := X.A.in1) (E := X.xe) (s := { s with heap := h'.push { cls := .type "list", data := .seq acc.toList.toArray }, toks := tk }) (a := h'.objs.size) (n := 0) (vs := acc.toList) (bs := kvs.map (·.1)) (enc := NestedKey.data) (R := IE X.K H)
    (Q := fun _ s' => EP X pins σ Q (.ref h'.objs.size) s') (Heap.get?_push_size _ rfl) ea (nin _ _ ea) so.al so.so hlk (fun b hb => ?_) fun out hol eo => ?_
  · refine wpAny_bind (wpAny_holding (wpAny_mono hg (fun _ s' x => ?_) fun _ _ e => e))
    exact wpAny_pure ⟨_, rfl, x⟩
  · obtain ⟨⟨k, w'⟩, hm, rfl⟩ := List.mem_map.mp hb
    obtain ⟨j, hj⟩ := List.mem_iff_getElem?.mp hb
    have : k.depth ≤ 8 := by
      have := PySem.W.each_mem ea
      obtain ⟨zs, _, iz⟩ := iv_each ea
      have h1 := iz.deps
      have h2 : k.depth ≤ _ := depth_mem hb
      omega
    rw [depth_data, Around.in1_units]
    show X.A.units + 1 + 1 + k.depth < cLine
    omega
  · obtain ⟨zs, rz, iz⟩ := iv_each eo
    obtain ⟨ep', he'⟩ := PyProof.Rows.sortedHeap_at (h := h'.push { cls := .type "list", data := .seq acc.toList.toArray }) (a := h'.objs.size) (n := 0) (vs := acc.toList) (out := out.toArray) (Heap.get?_push_size _ rfl)
    have hz : zs.length ≤ sizeLine := by rw [rz.length, hol, List.length_map]; exact hlen
    refine ⟨.ref _, upd H h'.objs.size (.lst zs), I1.laid (t' := tk) (fun b o e => ?_) (Nat.le_refl _) ⟨hz, out, ep', rz, he'⟩, rfl, q _ _ (I1.hok.fresh (Nat.le_refl _)) iz⟩
    exact (PyProof.Rows.sortedHeap_old (Nat.ne_of_lt (Heap.lt_size e)) (by rw [Heap.size_push]; exact Nat.lt_succ_of_lt (Heap.lt_size e))).trans (Heap.get?_push_of_some _ e)
end
end VL

set_option Elab.async false
set_option linter.all false
set_option maxRecDepth 100000
set_option maxHeartbeats 4000000
/-! VLg: sorted(d.keys()), kinds, dict(pairs). -/
namespace VL
open PySem L2
section
variable {X : Cx} {e : Expr} {p p2 apos cpos pos : Pos} {f : Sh → Option U} {al : List Nat}
theorem ev_sortedKeys (hc : X.calm = true) (hu : X.A.units + 64 < cLine) (hg : Gl X "sorted") (hm : X.mg "sorted" = none) (he : EV X e f al)
    (hbase : attributeBase e "keys" X.env (eval e X.env) = eval e X.env := by rfl) (hline : (apos.endLine == cpos.line) = true := by rfl)
    (hst : starEach [.Call (.Attribute e "keys" apos) [] [] cpos] X.env = (false, eval (.Call (.Attribute e "keys" apos) [] [] cpos) X.env) :: starEach [] X.env := by rfl) (hpl : (backTo pos (starEach [] X.env)).any (·.1) = false := by rfl) :
    EV X (.Call (.Name "sorted" p) [.Call (.Attribute e "keys" apos) [] [] cpos] [] pos) (fSK f) [] :=
  pe_w (pe_callB (cr_sortedKeys hc hu) hg hm (by decide +kernel) (pa_cons (pe_keys he hbase hline) pa_nil hst) (by decide) (by decide) hst hpl) fun σ H Q ⟨τ, u, hr, hf, q⟩ => by
    obtain ⟨u1, e1, hf1⟩ := bind_some hf
    obtain ⟨ks, e2, hf2⟩ := bind_some hf1
    cases u1 with
    | dc kvs =>
      cases e2
      have hf2 : (if SrtOk (kvs.map (·.1)) then some (U.ls (srtD (kvs.map (·.1)))) else none) = some u := hf2
      split at hf2
      · rename_i so
        cases hf2
        refine ⟨τ, kvs, hr, e1, fun pk d H' s1 d1 hk => ⟨pk, d, kvs, rfl, d1, hk, so, fun qa ys nq iy => ?_⟩⟩
        have sp := laid_same (o := .lst ys) nq
        exact q _ _ (s1.trans sp) ⟨qa, ys, rfl, upd_same, iy.keep (Same.tk sp)⟩ fun _ => .inl ⟨qa, rfl, s1.free nq⟩
      · cases hf2
    | _ => cases e2

/-! ### isinstance -/
def kindU : U → Option String
  | .im (.num _) => some "int"
  | .im (.text _) => some "str"
  | .im .none => some "NoneType"
  | .im (.tup _) => some "tuple"
  | .bl _ => some "bool"
  | .ls _ => some "list"
  | _ => none
theorem kind_ty {P : Program} {w : World} {K : PySem.W.Frag} {H : Hp} {x : V} {u : U} {k : String} (h : UV P w K H x u) (e : kindU u = some k) : TyX K H x (.type k) := by
  unfold kindU at e
  split at e
  · cases e
    cases IV.of_num h
    exact .base (.int _)
  · cases e
    have q := IV.dp h
    simp only [NestedKey.data] at q
    cases q
    exact .base (.str _)
  · cases e
    cases IV.of_none h
    exact .base .non
  · cases e
    obtain ⟨a, xs, rfl, ht, _⟩ := IV.of_tup h
    rcases ht with (ht | ⟨o, ht⟩) | ⟨o, its, n, h1, h2, _⟩
    · exact .base (.tup ht)
    · exact .fTuple ht
    · exact .kTuple h1 h2
  · cases e
    cases h
    exact .base (.bl _)
  · cases e
    obtain ⟨a, xs, rfl, h1, _⟩ := h
    exact .base (.lst h1)
  · cases e
def isiU (T : String) (u : U) : Option U := (kindU u).bind fun k => (kitB k T).map U.bl
def isiTU (S T : String) (u : U) : Option U := (kindU u).bind fun k => (kitB k S).bind fun b => if b = true then some (.bl true) else (kitB k T).map U.bl
theorem kit_ii : kitB "int" "int" = some true := by decide +kernel
theorem kit_bi : kitB "bool" "int" = some true := by decide +kernel
theorem kit_ti : kitB "tuple" "int" = some false := by decide +kernel
theorem kit_ni : kitB "NoneType" "int" = some false := by decide +kernel
theorem kit_li : kitB "list" "int" = some false := by decide +kernel
theorem kit_ib : kitB "int" "bool" = some false := by decide +kernel
theorem kit_bb : kitB "bool" "bool" = some true := by decide +kernel
theorem kit_tb : kitB "tuple" "bool" = some false := by decide +kernel
theorem kit_it : kitB "int" "tuple" = some false := by decide +kernel
theorem kit_bt : kitB "bool" "tuple" = some false := by decide +kernel
theorem kit_nt : kitB "NoneType" "tuple" = some false := by decide +kernel
theorem kit_tt : kitB "tuple" "tuple" = some true := by decide +kernel
theorem kit_lt : kitB "list" "tuple" = some false := by decide +kernel
theorem kit_il : kitB "int" "list" = some false := by decide +kernel
theorem kit_nl : kitB "NoneType" "list" = some false := by decide +kernel
theorem kit_tl : kitB "tuple" "list" = some false := by decide +kernel
theorem kit_is : kitB "int" "str" = some false := by decide +kernel
theorem kit_ns : kitB "NoneType" "str" = some false := by decide +kernel
theorem kit_ts : kitB "tuple" "str" = some false := by decide +kernel
theorem isi_num_int (i : Int) : isiU "int" (.im (.num i)) = some (.bl true) := by unfold isiU; show (kitB "int" "int").map U.bl = _; rw [kit_ii]; rfl
theorem isi_num_bool (i : Int) : isiU "bool" (.im (.num i)) = some (.bl false) := by unfold isiU; show (kitB "int" "bool").map U.bl = _; rw [kit_ib]; rfl
theorem isi_num_tuple (i : Int) : isiU "tuple" (.im (.num i)) = some (.bl false) := by unfold isiU; show (kitB "int" "tuple").map U.bl = _; rw [kit_it]; rfl
theorem isi_num_list (i : Int) : isiU "list" (.im (.num i)) = some (.bl false) := by unfold isiU; show (kitB "int" "list").map U.bl = _; rw [kit_il]; rfl
theorem isi_num_str (i : Int) : isiU "str" (.im (.num i)) = some (.bl false) := by unfold isiU; show (kitB "int" "str").map U.bl = _; rw [kit_is]; rfl
theorem isi_tup_tuple (ds : List D) : isiU "tuple" (.im (.tup ds)) = some (.bl true) := by unfold isiU; show (kitB "tuple" "tuple").map U.bl = _; rw [kit_tt]; rfl
theorem isi_tup_list (ds : List D) : isiU "list" (.im (.tup ds)) = some (.bl false) := by unfold isiU; show (kitB "tuple" "list").map U.bl = _; rw [kit_tl]; rfl
theorem isiT_tup (ds : List D) : isiTU "tuple" "list" (.im (.tup ds)) = some (.bl true) := by
  have e : kindU (.im (.tup ds)) = some "tuple" := rfl
  unfold isiTU
  rw [e, Option.bind_some, kit_tt, Option.bind_some, if_pos rfl]
theorem isiT_num (i : Int) : isiTU "tuple" "list" (.im (.num i)) = some (.bl false) := by
  have e : kindU (.im (.num i)) = some "int" := rfl
  unfold isiTU
  rw [e, Option.bind_some, kit_it, Option.bind_some, if_neg Bool.false_ne_true, kit_il]
  rfl
theorem ev_isi {T x : Str} {tn : String} (hg : Gl X "isinstance") (hm : X.mg "isinstance" = none) (he : EV X e f al) (hgT : Gl X x) (hmT : X.mg x = none) (hvT : bootBuiltins x = some (.type tn)) (hnT : x ≠ "__name__" := by decide) (hdT : (x == ("__debug__" : Str)) = false := by decide)
    (hst : starEach [e, .Name x p2] X.env = (false, eval e X.env) :: starEach [.Name x p2] X.env := by rfl) (hst2 : starEach [.Name x p2] X.env = (false, eval (.Name x p2) X.env) :: starEach [] X.env := by rfl)
    (hpl : (backTo pos (starEach [.Name x p2] X.env)).any (·.1) = false := by rfl) : EV X (.Call (.Name "isinstance" p) [e, .Name x p2] [] pos) (f1 (isiU tn) f) [] :=
  pe_w (pe_callB call_isi hg hm (by decide +kernel) (pa_cons he (pa_cons (pe_bltn (v := .ty tn) hgT hmT hvT rfl hnT hdT) pa_nil hst2) hst) (by decide) (by decide) hst hpl) fun σ H Q ⟨τ, u, hr, hf, q⟩ => by
    obtain ⟨u1, e1, hf1⟩ := bind_some hf
    obtain ⟨k, e2, hf2⟩ := bind_some hf1
    obtain ⟨b, e3, rfl⟩ := Option.map_eq_some_iff.mp hf2
    exact ⟨τ, u1, hr, e1, fun v H1 s1 uv _ => ⟨v, .ty tn, .type k, .type tn, b, rfl, .ty tn, kind_ty uv e2, kit_ty e3, q _ H1 s1 rfl fun m => by cases m⟩⟩
theorem ev_isiT {x y : Str} {tn un : String} {k : Nat} {py pt : Pos} (hg : Gl X "isinstance") (hm : X.mg "isinstance" = none) (he : EV X e f al) (hgT : Gl X x) (hmT : X.mg x = none) (hvT : bootBuiltins x = some (.type tn)) (hgU : Gl X y) (hmU : X.mg y = none) (hvU : bootBuiltins y = some (.type un))
    (hnT : x ≠ "__name__" := by decide) (hdT : (x == ("__debug__" : Str)) = false := by decide) (hnU : y ≠ "__name__" := by decide) (hdU : (y == ("__debug__" : Str)) = false := by decide)
    (hst : starEach [e, .Tuple [.Name x p2, .Name y py] k pt] X.env = (false, eval e X.env) :: starEach [.Tuple [.Name x p2, .Name y py] k pt] X.env := by rfl) (hst2 : starEach [.Tuple [.Name x p2, .Name y py] k pt] X.env = (false, eval (.Tuple [.Name x p2, .Name y py] k pt) X.env) :: starEach [] X.env := by rfl)
    (hs3 : starEach [.Name x p2, .Name y py] X.env = (false, eval (.Name x p2) X.env) :: starEach [.Name y py] X.env := by rfl) (hs4 : starEach [.Name y py] X.env = (false, eval (.Name y py) X.env) :: starEach [] X.env := by rfl)
    (hpl : (backTo pos (starEach [.Tuple [.Name x p2, .Name y py] k pt] X.env)).any (·.1) = false := by rfl) : EV X (.Call (.Name "isinstance" p) [e, .Tuple [.Name x p2, .Name y py] k pt] [] pos) (f1 (isiTU tn un) f) [] :=
  pe_w (pe_callB call_isiT hg hm (by decide +kernel) (pa_cons he (pa_cons (pe_tup (pa_cons (pe_bltn (v := .ty tn) hgT hmT hvT rfl hnT hdT) (pa_cons (pe_bltn (v := .ty un) hgU hmU hvU rfl hnU hdU) pa_nil hs4) hs3)) pa_nil hst2) hst) (by decide) (by decide) hst hpl) fun σ H Q ⟨τ, u, hr, hf, q⟩ => by
    obtain ⟨u1, e1, hf1⟩ := bind_some hf
    obtain ⟨kd, e2, hf2⟩ := bind_some hf1
    obtain ⟨b, e3, hf3⟩ := bind_some hf2
    refine ⟨τ, u1, hr, e1, fun v H1 s1 uv _ => ⟨by show 2 ≤ sizeLine; decide, fun pp np => ?_⟩⟩
    have sp := laid_same (o := .tup [.ty tn, .ty un]) np
    have ty : TyX X.K (upd H1 pp (.tup [.ty tn, .ty un])) v (.type kd) := kind_ty (uv.same sp) e2
    cases b with
    | true =>
      rw [if_pos rfl] at hf3
      cases hf3
      exact ⟨v, pp, [.ty tn, .ty un], .type kd, [.type tn, .type un], true, rfl, upd_same, .cons (.ty tn) (.cons (.ty un) .nil), ty, kitAny_cons (kit_ty e3) (fun z => by cases z) (fun _ => rfl), q _ _ (s1.trans sp) rfl fun m => by cases m⟩
    | false =>
      rw [if_neg Bool.false_ne_true] at hf3
      obtain ⟨b2, e4, rfl⟩ := Option.map_eq_some_iff.mp hf3
      refine ⟨v, pp, [.ty tn, .ty un], .type kd, [.type tn, .type un], b2, rfl, upd_same, .cons (.ty tn) (.cons (.ty un) .nil), ty, kitAny_cons (kit_ty e3) (fun _ => ?_) (fun z => by cases z), q _ _ (s1.trans sp) rfl fun m => by cases m⟩
      cases b2 with
      | true => exact kitAny_cons (kit_ty e4) (fun z => by cases z) fun _ => rfl
      | false => exact kitAny_cons (kit_ty e4) (fun _ => kitAny_nil) fun z => by cases z
end

/-! ### dict(pairs) -/
def pairD : D → Option (D × W)
  | .tup [.tup k, d] => some (.tup k, .k d)
  | _ => none
def pairsD : List D → Option (List (D × W))
  | [] => some []
  | d :: ds => (pairD d).bind fun p => (pairsD ds).map (p :: ·)
def dictU : List U → Option U
  | [.ls ds] => (pairsD ds).map fun ps => .dc (ps.foldl (fun acc p => stoD acc p.1 p.2) [])
  | _ => none
section
variable {X : Cx}
/-- the pairs, read off the heap -/
structure PairsAt (K : PySem.W.Frag) (H : Hp) (s : Shared) (its : List Value) (es : List (D × W)) (Ts : List Addr) (ps : List (D × Addr × Value)) : Prop where
  len : its.length = ps.length
  lenT : Ts.length = ps.length
  ent : Paired (DEnt K H) es ps
  at' : ∀ (j : Nat) (p : D × Addr × Value), ps[j]? = some p → its[j]? = some (.ref (Ts.getD j 0)) ∧ s.heap.IsTuple (Ts.getD j 0) #[.ref p.2.1, p.2.2]
theorem pairs_at {pins : List (Addr × Obj)} {σ : St} {H : Hp} {s : Shared} (I : Inv X pins σ H s) : ∀ {ds : List D} {xs : List V} {its : List Value} {es : List (D × W)}, IVs X.K H xs ds → Vals xs its → pairsD ds = some es → ∃ Ts ps, PairsAt X.K H s its es Ts ps
  | [], _, _, es, .nil, .nil, h => by
    cases h
    exact ⟨[], [], rfl, rfl, .nil, fun j p e => by simp at e⟩
  | d :: ds, _, _, es, .cons a b, .cons r t, h => by
    obtain ⟨p, h1, h2⟩ := bind_some h
    obtain ⟨es', h3, rfl⟩ := Option.map_eq_some_iff.mp h2
    obtain ⟨Ts, ps, P⟩ := pairs_at I b t h3
    unfold pairD at h1
    split at h1
    · rename_i k dv
      cases h1
      obtain ⟨T, zs, rfl, hT, hz⟩ := IV.of_tup a
      cases r
      obtain ⟨itz, rz, ⟨o, ho, hc, n, hd⟩, _⟩ := I.tuple hT
      cases hz with
      | cons z1 hz =>
        cases hz with
        | cons z2 hz =>
          cases hz
          cases rz with
          | cons q1 q2 =>
            cases q2 with
            | cons q2 q3 =>
              cases q3
              obtain ⟨kb, ks, rfl, _⟩ := IV.of_tup z1
              cases q1
              refine ⟨T :: Ts, (.tup k, kb, _) :: ps, by simp [P.len], by simp [P.lenT], .cons ⟨rfl, z1, _, q2, z2⟩ P.ent, fun j p e => ?_⟩
              cases j with
              | zero =>
                simp at e
                subst e
                exact ⟨rfl, ⟨o, ho, hc, n, by simpa using hd⟩⟩
              | succ j =>
                obtain ⟨g1, g2⟩ := P.at' j p (by simpa using e)
                exact ⟨by simpa using g1, by simpa using g2⟩
    · cases h1
theorem ent_foldl {K : PySem.W.Frag} {H : Hp} : ∀ {es : List (D × W)} {ps : List (D × Addr × Value)} {acc : List (D × W)} {xs : List (D × Addr × Value)}, Paired (DEnt K H) es ps → Paired (DEnt K H) acc xs →
    Paired (DEnt K H) (es.foldl (fun acc p => stoD acc p.1 p.2) acc) (storedAllH xs ps)
  | _, _, _, _, .nil, r => r
  | e :: es, p :: ps, acc, xs, .cons ⟨h1, h2, z, h3, h4⟩ t, r => by
    show Paired (DEnt K H) (es.foldl (fun acc p => stoD acc p.1 p.2) (stoD acc e.1 e.2)) (storedAllH (storedH xs p.1 p.2.1 p.2.2) ps)
    rw [h1]
    exact ent_foldl t (ent_sto r h2 h3 h4)
theorem ca_dict (hc : X.calm = true) (hu : X.A.units + 64 < cLine) : CallR X (.type "dict") (rVA X dictU) := by
  intro pins s σ H xs us Q I r ⟨ws, u, uv, hg, k⟩
  unfold dictU at hg
  split at hg
  · rename_i ds
    obtain ⟨es, he, rfl⟩ := Option.map_eq_some_iff.mp hg
    obtain ⟨x, rfl, a, ys, rfl, ht, hy⟩ := uvs1 uv
    obtain ⟨u1, rfl, rfl⟩ := vals1 r
    obtain ⟨its, rv, ⟨o, n, ho, hcl, hdi, hda⟩, hz⟩ := I.list (SqL.of ht)
    obtain ⟨Ts, ps, P⟩ := pairs_at I hy rv he
    have hps : ps.length ≤ sizeLine := by rw [← P.len, ← rv.length]; exact hz
    have isk : ∀ x ∈ ps, (nestedKind X.prog X.w).is s.heap x.1 x.2.1 := fun x hx => key_is I (ent_mem P.ent x hx)
    have hgj : ∀ (j : Nat) (kk vv : Value), (ps.map fun p => ((Value.ref p.2.1 : Value), p.2.2))[j]? = some (kk, vv) → ∃ p, ps[j]? = some p ∧ kk = .ref p.2.1 ∧ vv = p.2.2 := fun j kk vv e => by
      rw [List.getElem?_map] at e
      obtain ⟨p, e1, e2⟩ := Option.map_eq_some_iff.mp e
      cases e2
      exact ⟨p, e1, rfl, rfl⟩
    refine call_dict_pairsH (knd := nestedKind X.prog X.w) (ps := ps) (PairArg.list a its.toArray (fun j => Ts.getD j 0) (ps.map fun p => ((Value.ref p.2.1 : Value), p.2.2))) (I.ok.hd hc) (by show X.A.units + 1 + 1 + 8 < cLine; omega)
      ⟨⟨o, n, ho, hcl, hdi, hda⟩, by simp [P.len], fun j kk vv e => ?_⟩ ⟨by simp, fun j kk vv e => ?_⟩ (fun h' hk x hx => ?_) (by simpa using hps) fun h' tk hd' hk => ?_
    · obtain ⟨p, e1, rfl, rfl⟩ := hgj j kk vv e
      obtain ⟨g1, g2⟩ := P.at' j p e1
      exact ⟨by simpa using g1, .inl g2⟩
    · obtain ⟨p, e1, rfl, rfl⟩ := hgj j kk vv e
      exact ⟨p.1, p.2.1, e1, rfl⟩
    · refine nestedKind_stays.stays (fun b o vs n e _ => hk b o (Nat.ne_of_lt (Heap.lt_size e)) (by simp) e) (isk x hx)
    · have hb := I.big
      have h0 : (s.heap.objs.size == sysModules) = false := beq_eq_false_iff_ne.mpr (Nat.ne_of_gt hb)
      have np : H s.heap.objs.size = none := I.hok.fresh (Nat.le_refl _)
      have hent : Paired (DEnt X.K H) (es.foldl (fun acc p => stoD acc p.1 p.2) []) (storedAllH [] ps) := ent_foldl P.ent .nil
      obtain ⟨o2, eo, d⟩ := dc_mk (X := X) (H := H) (kvs := es.foldl (fun acc p => stoD acc p.1 p.2) []) h0 (by
        rw [Paired.length hent]
        have := storedAllH_length ps ([] : List (D × Addr × Value))
        simp at this
        omega) hd' fun o => Paired.mapP hent fun _ _ z => z.keep (Same.tk (laid_same np))
      exact ⟨.ref s.heap.objs.size, _, I.laid (t' := tk) (fun b q e => hk b q (by simp) e) (Nat.le_refl _) (obO_ok eo), rfl, k _ _ (laid_same np) ⟨_, rfl, d⟩ fun _ => ⟨_, rfl, np⟩⟩
  · cases hg
end
end VL

set_option Elab.async false
set_option linter.all false
set_option maxRecDepth 100000
set_option maxHeartbeats 400000
/-! VLh: statements over shadows. -/
namespace VL
open PySem L2

inductive Res where
  | nx (τ : Sh) | rt (u : U)
/-- what is wanted behind a statement, by its result -/
def Post (X : Cx) (O : List Nat) (H0 : Hp) (D : Ends) : Res → Prop
  | .nx τ' => ∀ σ' H', VI X.prog X.w X.K O H0 H' σ' τ' → D.nx σ' H'
  | .rt u => ∀ v H', Same H0 H' → UV X.prog X.w X.K H' v u → (mutU u = true → Fr H0 v) → D.rt v H'
def tVS (X : Cx) (O : List Nat) (g : Sh → Option Res) : TS := fun D σ H => ∃ H0 τ r, VI X.prog X.w X.K O H0 H σ τ ∧ g τ = some r ∧ Post X O H0 D r
def SV (X : Cx) (O : List Nat) (st : Stmt) (g : Sh → Option Res) : Prop := PS X st (tVS X O g)
def SVs (X : Cx) (O : List Nat) (st : List Stmt) (g : Sh → Option Res) : Prop := PSs X st (tVS X O g)

section
variable {P : Program} {w : World} {K : PySem.W.Frag} {O : List Nat} {H0 H H' : Hp} {σ : St} {τ : Sh}
/-- no mutable slot holds v -/
def NotIn (σ : St) (τ : Sh) (v : V) : Prop := ∀ (j : Nat) (u : U) (v' : V), τ[j]? = some (some u) → mutU u = true → σ[j]? = some (some v') → v' ≠ v
def NewTo (H0 : Hp) (v : V) : Prop := ∀ a, v = .ref a → H0 a = none
theorem VI.set1 (h : VI P w K O H0 H σ τ) {i : Nat} {v : V} {u : U} (hu : UV P w K H v u) (hn : mutU u = true → ∀ (j : Nat) (u' : U) (v' : V), j ≠ i → τ[j]? = some (some u') → mutU u' = true → σ[j]? = some (some v') → v' ≠ v) (ho : mutU u = true → i ∈ O → NewTo H0 v) :
    VI P w K O H0 H (σ.set i (some v)) (τ.set i (some u)) := by
  refine ⟨by rw [List.length_set, List.length_set]; exact h.len, h.same, ⟨by rw [List.length_set, List.length_set]; exact h.len, fun j u' e => ?_⟩, fun j k u1 u2 v' hjk e1 e2 m1 m2 f1 f2 => ?_, fun j u' a hj e m f => ?_⟩
  · by_cases hj : i = j
    · subst hj
      have hi : i < τ.length := by
        rcases Nat.lt_or_ge i τ.length with q | q
        · exact q
        · rw [List.getElem?_eq_none (by rw [List.length_set]; exact q)] at e; cases e
      rw [List.getElem?_set_self hi] at e
      cases e
      exact ⟨v, List.getElem?_set_self (by rw [← h.len]; exact hi), hu⟩
    · rw [List.getElem?_set_ne hj] at e
      obtain ⟨v', h1, h2⟩ := h.rel.get j u' e
      exact ⟨v', by rw [List.getElem?_set_ne hj]; exact h1, h2⟩
  · have self : ∀ {x : U}, (τ.set i (some u))[i]? = some (some x) → x = u ∧ i < σ.length := fun {x} e => by
      have hi : i < τ.length := by
        rcases Nat.lt_or_ge i τ.length with q | q
        · exact q
        · rw [List.getElem?_eq_none (by rw [List.length_set]; exact q)] at e; cases e
      rw [List.getElem?_set_self hi] at e
      cases e
      exact ⟨rfl, by rw [← h.len]; exact hi⟩
    by_cases hj : i = j
    · subst hj
      obtain ⟨rfl, hi⟩ := self e1
      rw [List.getElem?_set_self hi] at f1
      cases f1
      rw [List.getElem?_set_ne hjk] at e2 f2
      exact hn m1 k u2 _ (Ne.symm hjk) e2 m2 f2 rfl
    · by_cases hk : i = k
      · subst hk
        obtain ⟨rfl, hi⟩ := self e2
        rw [List.getElem?_set_self hi] at f2
        cases f2
        rw [List.getElem?_set_ne (Ne.symm hjk)] at e1 f1
        exact hn m2 j u1 _ hjk e1 m1 f1 rfl
      · rw [List.getElem?_set_ne hj] at e1 f1
        rw [List.getElem?_set_ne hk] at e2 f2
        exact h.noal j k u1 u2 v' hjk e1 e2 m1 m2 f1 f2
  · by_cases hij : i = j
    · subst hij
      have hi : i < τ.length := by
        rcases Nat.lt_or_ge i τ.length with q | q
        · exact q
        · rw [List.getElem?_eq_none (by rw [List.length_set]; exact q)] at e; cases e
      rw [List.getElem?_set_self hi] at e
      cases e
      rw [List.getElem?_set_self (by rw [← h.len]; exact hi)] at f
      cases f
      exact ho m hj a rfl
    · rw [List.getElem?_set_ne hij] at e f
      exact h.own j u' a hj e m f
theorem VI.sames (h : VI P w K O H0 H σ τ) (k : Same H H') : VI P w K O H0 H' σ τ := ⟨h.len, h.same.trans k, h.rel.same k, h.noal, h.own⟩
/-- what is new is in no slot -/
theorem VI.notIn (h : VI P w K O H0 H σ τ) {v : V} (f : Fr H v) : NotIn σ τ v := fun j u v' e m g z => by
  obtain ⟨a, rfl, ha⟩ := f
  obtain ⟨v2, h1, h2⟩ := h.rel.get j u e
  rw [g] at h1
  cases h1
  obtain ⟨b, o, rfl, hb, _⟩ := h2.at m
  cases z
  rw [ha] at hb
  cases hb
theorem VI.newTo (h : VI P w K O H0 H σ τ) {v : V} (f : Fr H v) : NewTo H0 v := fun a e => by
  obtain ⟨b, rfl, hb⟩ := f
  cases e
  exact h.same.free hb
/-- an assignment to slot i of a value whose aliases are al -/
def okAl (al : List Nat) (i : Nat) (u : U) : Bool := !mutU u || al.all fun j => decide (j = i)
theorem VI.set (h : VI P w K O H0 H σ τ) {i : Nat} {v : V} {u : U} {al : List Nat} (s : Same H H') (hu : UV P w K H' v u) (f : Frs H σ τ al v u) (ok : okAl al i u = true) : VI P w K O H0 H' (σ.set i (some v)) (τ.set i (some u)) := by
  refine (h.sames s).set1 hu (fun m j u' v' hj e m' g => ?_) fun m hi => ?_
  · rcases f m with f | ⟨k, hk, g1, g2⟩
    · exact h.notIn f j u' v' e m' g
    · unfold okAl at ok
      rw [m] at ok
      have hk' : k = i := by simpa using List.all_eq_true.mp ok k hk
      subst hk'
      intro z
      subst z
      exact h.noal j k u' u _ hj e g2 m' m g g1
  · rcases f m with f | ⟨k, hk, g1, g2⟩
    · exact h.newTo f
    · unfold okAl at ok
      rw [m] at ok
      have hk' : k = i := by simpa using List.all_eq_true.mp ok k hk
      subst hk'
      intro a e
      subst e
      exact h.own k u a hi g2 m g1
end

section
variable {X : Cx} {O : List Nat} {e : Expr} {st : Stmt} {rest body : List Stmt} {pos : Pos}
theorem post_seq {g2 : Sh → Option Res} {H0 : Hp} {D : Ends} {r1 r : Res} (h : Post X O H0 D r) (h2 : ∀ τ, r1 = .nx τ → g2 τ = some r) (h3 : ∀ u, r1 = .rt u → r = .rt u) : Post X O H0 { D with nx := tVS X O g2 D } r1 := by
  cases r1 with
  | nx τ => exact fun σ' H' v => ⟨H0, τ, r, v, h2 τ rfl, h⟩
  | rt u =>
    have e := h3 u rfl
    subst e
    exact h
def fSeq (g1 g2 : Sh → Option Res) : Sh → Option Res := fun τ => (g1 τ).bind fun r => match r with
  | .nx τ' => g2 τ'
  | .rt u => some (.rt u)
def fNext : Sh → Option Res := fun τ => some (.nx τ)
theorem svs_nil : SVs X O [] fNext := pss_w pss_nil fun D σ H ⟨H0, τ, r, v, hg, p⟩ => by
  cases hg
  exact p σ H v
theorem svs_cons {g1 g2 : Sh → Option Res} (h1 : SV X O st g1) (h2 : SVs X O rest g2) : SVs X O (st :: rest) (fSeq g1 g2) := pss_w (pss_cons h1 h2) fun D σ H ⟨H0, τ, r, v, hg, p⟩ => by
  obtain ⟨r1, e1, e2⟩ := bind_some hg
  refine ⟨H0, τ, r1, v, e1, post_seq p (fun τ' z => ?_) fun u z => ?_⟩
  · subst z; exact e2
  · subst z
    have e3 : some (Res.rt u) = some r := e2
    cases e3
    rfl
theorem svs_one {g : Sh → Option Res} (h : SV X O st g) : SVs X O [st] g := pss_w (pss_one h) fun _ _ _ z => z
theorem sv_never : SV X O st (fun _ => none) := ps_w ps_never fun D σ H ⟨H0, τ, r, v, hg, p⟩ => by cases hg
theorem svs_never : SVs X O body (fun _ => none) := pss_w pss_never fun D σ H ⟨H0, τ, r, v, hg, p⟩ => by cases hg
theorem sv_pass : SV X O (.Pass pos) fNext := ps_w ps_pass fun D σ H ⟨H0, τ, r, v, hg, p⟩ => by
  cases hg
  exact p σ H v
def fIfS (c : Sh → Option Bool) (g1 g2 : Sh → Option Res) : Sh → Option Res := fun τ => (c τ).bind fun b => if b = true then g1 τ else g2 τ
theorem sv_if {c : Expr} {a b : List Stmt} {f : Sh → Option Bool} {g1 g2 : Sh → Option Res} (hc : TV X c f) (h1 : SVs X O a g1) (h2 : SVs X O b g2) : SV X O (.If c a b pos) (fIfS f g1 g2) := ps_w (ps_if hc h1 h2) fun D σ H ⟨H0, τ, r, v, hg, p⟩ => by
  obtain ⟨k, e1, e2⟩ := bind_some hg
  refine ⟨τ, k, v.rel, e1, fun H' s => ?_⟩
  show if k = true then tVS X O g1 D σ H' else tVS X O g2 D σ H'
  cases k with
  | true =>
    rw [if_pos rfl] at e2 ⊢
    exact ⟨H0, τ, r, v.sames s, e2, p⟩
  | false =>
    rw [if_neg Bool.false_ne_true] at e2 ⊢
    exact ⟨H0, τ, r, v.sames s, e2, p⟩
/-- x = e -/
def fSet (i : Nat) (al : List Nat) (f : Sh → Option U) : Sh → Option Res := fun τ => (f τ).bind fun u => if okAl al i u = true then some (.nx (τ.set i (some u))) else none
theorem sv_set (i : Nat) {x : Str} {pos' : Pos} {f : Sh → Option U} {al : List Nat} (hN : X.N.Nodup) (hi : X.N[i]? = some x) (hx : Loc X.env.scope x) (he : EV X e f al) (hs : swapsWith e (some (.Name x pos')) pos.line X.env = pure false := by rfl)
    (hf : X.fn x = true ∨ X.env.scope.names.lookup x = some .local := by first | exact .inl rfl | exact .inr rfl | assumption) : SV X O (.Assign [.Name x pos'] e pos) (fSet i al f) :=
  ps_w (ps_set hN hi hx he hs hf) fun D σ H ⟨H0, τ, r, v, hg, p⟩ => by
    obtain ⟨u, e1, e2⟩ := bind_some hg
    split at e2
    · rename_i ok
      cases e2
      exact ⟨τ, u, v.rel, e1, fun y H' s uy fy => p _ _ (v.set s uy fy ok)⟩
    · cases e2
/-- return e -/
def okRt (O al : List Nat) (u : U) : Bool := !mutU u || al.all fun j => decide (j ∈ O)
def fRet (O al : List Nat) (f : Sh → Option U) : Sh → Option Res := fun τ => (f τ).bind fun u => if okRt O al u = true then some (.rt u) else none
theorem VI.frs {P : Program} {w : World} {K : PySem.W.Frag} {O : List Nat} {H0 H : Hp} {σ : St} {τ : Sh} {v : V} {u : U} {al : List Nat} (h : VI P w K O H0 H σ τ) (f : Frs H σ τ al v u) (ok : okRt O al u = true) (hv : mutU u = true → ∃ a, v = .ref a) : mutU u = true → Fr H0 v := fun m => by
  rcases f m with ⟨a, rfl, ha⟩ | ⟨k, hk, g1, g2⟩
  · exact ⟨a, rfl, h.same.free ha⟩
  · unfold okRt at ok
    rw [m] at ok
    have hk' : k ∈ O := by simpa using List.all_eq_true.mp ok k hk
    obtain ⟨a, rfl⟩ := hv m
    exact ⟨a, rfl, h.own k u a hk' g2 m g1⟩
theorem sv_ret {f : Sh → Option U} {al : List Nat} (he : EV X e f al) : SV X O (.Return (some e) pos) (fRet O al f) :=
  ps_w (ps_ret he) fun D σ H ⟨H0, τ, r, v, hg, p⟩ => by
    obtain ⟨u, e1, e2⟩ := bind_some hg
    split at e2
    · rename_i ok
      cases e2
      refine ⟨τ, u, v.rel, e1, fun y H' s uy fy => p y H' (v.same.trans s) uy (v.frs fy ok fun m => ?_)⟩
      obtain ⟨a, _, rfl, _⟩ := uy.at m
      exact ⟨a, rfl⟩
    · cases e2
/-- e; (its value dropped) -/
def fDrop (f : Sh → Option U) : Sh → Option Res := fun τ => (f τ).map fun _ => .nx τ
theorem sv_expr {f : Sh → Option U} {al : List Nat} (he : EV X e f al) (hs : swapsWith e none pos.line X.env = pure false := by rfl) : SV X O (.Expr e pos) (fDrop f) :=
  ps_w (ps_expr he hs) fun D σ H ⟨H0, τ, r, v, hg, p⟩ => by
    obtain ⟨u, e1, rfl⟩ := Option.map_eq_some_iff.mp hg
    exact ⟨τ, u, v.rel, e1, fun y H' s uy fy => p σ H' (v.sames s)⟩
/-- try: .. where nothing is raised -/
theorem sv_try {hd : ExceptHandler} {hs : List ExceptHandler} {g : Sh → Option Res} (hb : SVs X.nox O body g) : SV X O (.Try body (hd :: hs) [] [] pos) g := ps_try_thru0 hb

/-! several names at once -/
def setAll : List Nat → List V → St → St
  | i :: is, v :: vs, σ => setAll is vs (σ.set i (some v))
  | _, _, σ => σ
def setAllU : List Nat → List U → Sh → Sh
  | i :: is, u :: us, τ => setAllU is us (τ.set i (some u))
  | _, _, τ => τ
inductive AllFr (H : Hp) : List V → List U → Prop
  | nil : AllFr H [] []
  | cons {v : V} {vs : List V} {u : U} {us : List U} : (mutU u = true → Fr H v) → (∀ (j : Nat) (v' : V) (u' : U), vs[j]? = some v' → us[j]? = some u' → mutU u = true → mutU u' = true → v' ≠ v) → AllFr H vs us → AllFr H (v :: vs) (u :: us)
def tVF (X : Cx) (f : Sh → Option (List U)) : TA := fun σ H Q => ∃ τ us, ShRel X.prog X.w X.K H σ τ ∧ f τ = some us ∧ ∀ vs H', Same H H' → UVs X.prog X.w X.K H' vs us → AllFr H vs us → Q vs H'
def FV (X : Cx) (es : List Expr) (f : Sh → Option (List U)) : Prop := PA X es (tVF X f)
theorem fv_nil : FV X [] fNil := pa_w pa_nil fun σ H Q ⟨τ, us, hr, hf, q⟩ => by
  cases hf
  exact q [] H (Same.refl H) .nil .nil
def fConsF (al : List Nat) (f : Sh → Option U) (g : Sh → Option (List U)) : Sh → Option (List U) := fun τ => (f τ).bind fun u => if (!mutU u || al.isEmpty) = true then (g τ).bind fun us => some (u :: us) else none
theorem UVs.at {P : Program} {w : World} {K : PySem.W.Frag} {H : Hp} : ∀ {vs : List V} {us : List U} {j : Nat} {v : V} {u : U}, UVs P w K H vs us → vs[j]? = some v → us[j]? = some u → UV P w K H v u
  | _, _, 0, _, _, .cons a _, e1, e2 => by simp at e1 e2; subst e1 e2; exact a
  | _, _, j + 1, _, _, .cons _ b, e1, e2 => b.at (j := j) (by simpa using e1) (by simpa using e2)
theorem AllFr.mono {H H1 : Hp} (s : Same H H1) : ∀ {vs : List V} {us : List U}, AllFr H1 vs us → AllFr H vs us
  | _, _, .nil => .nil
  | _, _, .cons a b c => .cons (fun m => by obtain ⟨x, rfl, hx⟩ := a m; exact ⟨x, rfl, s.free hx⟩) b (c.mono s)
theorem AllFr.at {H : Hp} : ∀ {vs : List V} {us : List U} {j : Nat} {v : V} {u : U}, AllFr H vs us → vs[j]? = some v → us[j]? = some u → mutU u = true → Fr H v
  | _, _, 0, _, _, .cons a _ _, e1, e2, m => by simp at e1 e2; subst e1 e2; exact a m
  | _, _, j + 1, _, _, .cons _ _ c, e1, e2, m => c.at (j := j) (by simpa using e1) (by simpa using e2) m
theorem fv_cons {es : List Expr} {f : Sh → Option U} {g : Sh → Option (List U)} {al : List Nat} (h : EV X e f al) (hs : FV X es g) (hst : starEach (e :: es) X.env = (false, eval e X.env) :: starEach es X.env := by rfl) : FV X (e :: es) (fConsF al f g) :=
  pa_w (pa_cons h hs hst) fun σ H Q ⟨τ, us, hr, hf, q⟩ => by
    obtain ⟨u, e1, hf1⟩ := bind_some hf
    split at hf1
    · rename_i ok
      obtain ⟨us', e2, hf2⟩ := bind_some hf1
      cases hf2
      refine ⟨τ, u, hr, e1, fun v H1 s1 u1 f1 => ⟨τ, us', hr.same s1, e2, fun vs H2 s2 u2 f2 => q _ H2 (s1.trans s2) (.cons (u1.same s2) u2) (.cons (fun m => ?_) (fun j v' u' g1 g2 m1 m2 z => ?_) (f2.mono s1))⟩⟩
      · rcases f1 m with f1 | ⟨k, hk, _⟩
        · exact f1
        · rw [m] at ok
          cases al with
          | nil => cases hk
          | cons _ _ => cases ok
      · obtain ⟨a, o, rfl, ha, _⟩ := u1.at m1
        obtain ⟨b, rfl, hb⟩ := f2.at g1 g2 m2
        cases z
        rw [ha] at hb
        cases hb
    · cases hf1
theorem VI.setAll {P : Program} {w : World} {K : PySem.W.Frag} {H0 H : Hp} : ∀ {is : List Nat} {vs : List V} {us : List U} {σ : St} {τ : Sh}, VI P w K O H0 H σ τ → UVs P w K H vs us →
    (∀ (j : Nat) (v : V) (u : U), vs[j]? = some v → us[j]? = some u → mutU u = true → NotIn σ τ v ∧ NewTo H0 v) →
    (∀ (j k : Nat) (v v' : V) (u u' : U), j < k → vs[j]? = some v → us[j]? = some u → vs[k]? = some v' → us[k]? = some u' → mutU u = true → mutU u' = true → v' ≠ v) →
    VI P w K O H0 H (VL.setAll is vs σ) (setAllU is us τ)
  | [], _, _, _, _, h, _, _, _ => by unfold VL.setAll setAllU; exact h
  | _ :: _, _, _, _, _, h, .nil, _, _ => by unfold VL.setAll setAllU; exact h
  | i :: is, v :: vs, u :: us, σ, τ, h, .cons a b, hn, hp => by
    unfold VL.setAll setAllU
    refine (h.set1 (i := i) a (fun m j u' v' hj e m' g => (hn 0 v u rfl rfl m).1 j u' v' e m' g) fun m _ => (hn 0 v u rfl rfl m).2).setAll b (fun j v' u' g1 g2 m => ⟨fun k uk vk e1 m1 e2 => ?_, (hn (j + 1) v' u' g1 g2 m).2⟩) fun j k x x' y y' hjk g1 g2 g3 g4 => hp (j + 1) (k + 1) x x' y y' (Nat.succ_lt_succ hjk) g1 g2 g3 g4
    by_cases hik : i = k
    · subst hik
      have hi : i < τ.length := by
        rcases Nat.lt_or_ge i τ.length with q | q
        · exact q
        · rw [List.getElem?_eq_none (by rw [List.length_set]; exact q)] at e1; cases e1
      rw [List.getElem?_set_self hi] at e1
      cases e1
      rw [List.getElem?_set_self (by rw [← h.len]; exact hi)] at e2
      cases e2
      exact fun z => hp 0 (j + 1) v v' u u' (Nat.succ_pos j) rfl rfl g1 g2 m1 m z.symm
    · rw [List.getElem?_set_ne hik] at e1 e2
      exact (hn (j + 1) v' u' g1 g2 m).1 k uk vk e1 m1 e2
theorem AllFr.pair {H : Hp} {vs : List V} {us : List U} (h : AllFr H vs us) : ∀ (j k : Nat) (v v' : V) (u u' : U), j < k → vs[j]? = some v → us[j]? = some u → vs[k]? = some v' → us[k]? = some u' → mutU u = true → mutU u' = true → v' ≠ v := by
  induction h with
  | nil =>
    intro j k v v' u u' _ e
    simp at e
  | cons a b c ih =>
    intro j k v v' u u' hjk e1 e2 e3 e4 m1 m2
    obtain ⟨k, rfl⟩ : ∃ k', k = k' + 1 := ⟨k - 1, by omega⟩
    cases j with
    | zero =>
      simp at e1 e2
      subst e1 e2
      exact b k v' u' (by simpa using e3) (by simpa using e4) m1 m2
    | succ j => exact ih j k v v' u u' (by omega) (by simpa using e1) (by simpa using e2) (by simpa using e3) (by simpa using e4) m1 m2
theorem VI.sets {P : Program} {w : World} {K : PySem.W.Frag} {H0 H H' : Hp} {is : List Nat} {vs : List V} {us : List U} {σ : St} {τ : Sh} (h : VI P w K O H0 H σ τ) (s : Same H H') (hu : UVs P w K H' vs us) (hf : AllFr H vs us) : VI P w K O H0 H' (VL.setAll is vs σ) (setAllU is us τ) :=
  (h.sames s).setAll hu (fun j v u e1 e2 m => ⟨h.notIn (hf.at e1 e2 m), h.newTo (hf.at e1 e2 m)⟩) hf.pair
def fPar (is : List Nat) (f : Sh → Option (List U)) : Sh → Option Res := fun τ => (f τ).bind fun us => if us.length = is.length then some (.nx (setAllU is us τ)) else none
/-- a, b = x, y (plain local names: stored from the right, no tuple is made) -/
theorem sv_par {i j : Nat} {x y : Str} {a b : Expr} {px py pt : Pos} {kt k2 pt2} {f : Sh → Option (List U)} (hc : X.calm = true) (hN : X.N.Nodup) (hi : X.N[i]? = some x) (hj : X.N[j]? = some y) (hij : i ≠ j)
    (hx : X.env.scope.names.lookup x = some .local) (hy : X.env.scope.names.lookup y = some .local) (ha : FV X [a, b] f)
    (hw : swappedStores [.Tuple [.Name x px, .Name y py] kt pt] (.Tuple [a, b] k2 pt2) X.env = pure (some [x, y]))
    (hs : swapsWithSole [.Tuple [.Name x px, .Name y py] kt pt] (.Tuple [a, b] k2 pt2) pos.line X.env = pure false := by rfl) :
    SV X O (.Assign [.Tuple [.Name x px, .Name y py] kt pt] (.Tuple [a, b] k2 pt2) pos) (fPar [i, j] f) :=
  ps_w (ps_par hc hN hi hj hij hx hy ha hw hs) fun D σ H ⟨H0, τ, r, v, hg, p⟩ => by
    obtain ⟨us, e1, e2⟩ := bind_some hg
    split at e2
    · rename_i hl
      cases e2
      refine ⟨τ, us, v.rel, e1, fun vs H' s u2 f2 => ?_⟩
      have hv := u2.length
      rw [hl] at hv
      match vs, hv with
      | [v1, v2], _ => exact ⟨v1, v2, rfl, p _ _ (v.sets (is := [i, j]) s u2 f2)⟩
    · cases e2
theorem sv_par3 {i j l : Nat} {x y z : Str} {a b c : Expr} {px py pz pt : Pos} {kt k2 pt2} {f : Sh → Option (List U)} (h : PS X (.Assign [.Tuple [.Name x px, .Name y py, .Name z pz] kt pt] (.Tuple [a, b, c] k2 pt2) pos) (tPar3 i j l (tVF X f))) :
    SV X O (.Assign [.Tuple [.Name x px, .Name y py, .Name z pz] kt pt] (.Tuple [a, b, c] k2 pt2) pos) (fPar [i, j, l] f) :=
  ps_w h fun D σ H ⟨H0, τ, r, v, hg, p⟩ => by
    obtain ⟨us, e1, e2⟩ := bind_some hg
    split at e2
    · rename_i hl
      cases e2
      refine ⟨τ, us, v.rel, e1, fun vs H' s u2 f2 => ?_⟩
      have hv := u2.length
      rw [hl] at hv
      match vs, hv with
      | [v1, v2, v3], _ => exact ⟨v1, v2, v3, rfl, p _ _ (v.sets (is := [i, j, l]) s u2 f2)⟩
    · cases e2
/-- names, as the targets of an unpacking -/
structure Tgs (X : Cx) (ts : List Expr) (is : List Nat) : Prop where
  ex : ∃ t, PGs X ts t ∧ ∀ (vs : List V) (σ : St) (H : Hp) (Q : St → Hp → Prop), vs.length = is.length → Q (setAll is vs σ) H → t vs σ H Q
theorem tgs_nil : Tgs X [] [] := ⟨gNil, pgs_nil, fun vs σ H Q hl q => by
  have e : vs = [] := List.eq_nil_of_length_eq_zero hl
  subst e
  exact ⟨rfl, q⟩⟩
theorem tgs_cons {i : Nat} {is : List Nat} {x : Str} {ts : List Expr} {p : Pos} (hN : X.N.Nodup) (hi : X.N[i]? = some x) (hx : Loc X.env.scope x) (h : Tgs X ts is) (hf : X.fn x = true ∨ X.env.scope.names.lookup x = some .local := by first | exact .inl rfl | exact .inr rfl | assumption)
    (hs : (assignEach (.Name x p :: ts) X.env).map (·.2) = assign (.Name x p) X.env :: (assignEach ts X.env).map (·.2) := by rfl) : Tgs X (.Name x p :: ts) (i :: is) := by
  obtain ⟨t, h1, h2⟩ := h.ex
  refine ⟨_, pgs_cons (pg_name hN hi hx hf) h1 hs, fun vs σ H Q hl q => ?_⟩
  cases vs with
  | nil => cases hl
  | cons v vs => exact ⟨v, vs, rfl, h2 vs _ H Q (Nat.succ.inj hl) q⟩
/-- (a, b, ..) = x, y, .. by a tuple -/
theorem sv_asgT {ts es : List Expr} {is : List Nat} {kt k2 : Nat} {pt pt2 : Pos} {f : Sh → Option (List U)} (hc : X.calm = true) (h : Tgs X ts is) (ha : FV X es f) (hn : (assignEach ts X.env).length = is.length := by rfl) (hst : (assignEach ts X.env).findIdx? (·.1) = none := by rfl)
    (hs : swapsWithSole [.Tuple ts kt pt] (.Tuple es k2 pt2) pos.line X.env = pure false := by rfl) (hw : swappedStores [.Tuple ts kt pt] (.Tuple es k2 pt2) X.env = pure none := by rfl) (h1 : (assignEach [.Tuple ts kt pt] X.env).map (·.2) = [assign (.Tuple ts kt pt) X.env] := by rfl)
    (hz : is.length ≤ 1000 := by decide) : SV X O (.Assign [.Tuple ts kt pt] (.Tuple es k2 pt2) pos) (fPar is f) := by
  obtain ⟨t, h2, h3⟩ := h.ex
  refine ps_w (ps_asg (pe_tup ha) (pg_tup hc h2 hn hst) hs hw h1) fun D σ H ⟨H0, τ, r, v, hg, p⟩ => ?_
  obtain ⟨us, e1, e2⟩ := bind_some hg
  split at e2
  · rename_i hl
    cases e2
    refine ⟨τ, us, v.rel, e1, fun vs H' s u2 f2 => ?_⟩
    have hv := u2.length
    refine ⟨by rw [hv, hl]; have : (1000 : Nat) ≤ sizeLine := by decide
               omega, fun q nq => ?_⟩
    have sp := laid_same (o := .tup vs) nq
    exact ⟨q, vs, rfl, SqT.of upd_same, hv.trans hl, h3 vs σ _ _ (hv.trans hl) (p _ _ (v.sets (s.trans sp) (u2.same sp) f2))⟩
  · cases e2
/-- (a, b, ..) = e, e a tuple of data -/
def fUnp (is : List Nat) (f : Sh → Option U) : Sh → Option Res := fun τ => (f τ).bind fun u => match u with
  | .im (.tup ds) => if ds.length = is.length then some (.nx (setAllU is (ds.map .im) τ)) else none
  | _ => none
theorem ivs_uvs {P : Program} {w : World} {K : PySem.W.Frag} {H : Hp} : ∀ {vs : List V} {ds : List D}, IVs K H vs ds → UVs P w K H vs (ds.map .im)
  | _, _, .nil => .nil
  | _, _, .cons a b => .cons a (ivs_uvs b)
theorem allfr_im {H : Hp} : ∀ {vs : List V} {ds : List D}, vs.length = ds.length → AllFr H vs (ds.map .im)
  | [], [], _ => .nil
  | _ :: _, _ :: _, h => .cons (fun m => by cases m) (fun j v' u' _ _ m => by cases m) (allfr_im (Nat.succ.inj h))
theorem sv_unp {ts : List Expr} {is : List Nat} {kt : Nat} {pt : Pos} {f : Sh → Option U} {al : List Nat} (hc : X.calm = true) (h : Tgs X ts is) (he : EV X e f al) (hn : (assignEach ts X.env).length = is.length := by rfl) (hst : (assignEach ts X.env).findIdx? (·.1) = none := by rfl)
    (hs : swapsWithSole [.Tuple ts kt pt] e pos.line X.env = pure false := by rfl) (hw : swappedStores [.Tuple ts kt pt] e X.env = pure none := by rfl) (h1 : (assignEach [.Tuple ts kt pt] X.env).map (·.2) = [assign (.Tuple ts kt pt) X.env] := by rfl) :
    SV X O (.Assign [.Tuple ts kt pt] e pos) (fUnp is f) := by
  obtain ⟨t, h2, h3⟩ := h.ex
  refine ps_w (ps_asg he (pg_tup hc h2 hn hst) hs hw h1) fun D σ H ⟨H0, τ, r, v, hg, p⟩ => ?_
  obtain ⟨u, e1, e2⟩ := bind_some hg
  refine ⟨τ, u, v.rel, e1, fun y H' s uy fy => ?_⟩
  split at e2
  · rename_i ds
    split at e2
    · rename_i hl
      cases e2
      obtain ⟨a, xs, rfl, ht, hx⟩ := IV.of_tup uy
      have hv := hx.length
      exact ⟨a, xs, rfl, ht, hv.trans hl, h3 xs σ _ _ (hv.trans hl) (p _ _ (v.sets s (ivs_uvs hx) (allfr_im hv)))⟩
    · cases e2
  · cases e2
end
end VL

set_option Elab.async false
set_option linter.all false
set_option maxRecDepth 100000
set_option maxHeartbeats 400000
/-! VLi: what is walked; loops; stores into lists and dicts. -/
namespace VL
open PySem L2

section
variable {P : Program} {w : World} {K : PySem.W.Frag} {O : List Nat} {H0 H : Hp} {σ : St} {τ : Sh}
/-- the object of a slot of O has changed -/
theorem VI.mut (h : VI P w K O H0 H σ τ) {i : Nat} {u u' : U} {a : Addr} {o : HO} (hi : i ∈ O) (e : τ[i]? = some (some u)) (m : mutU u = true) (g : σ[i]? = some (some (.ref a))) (n : NoTup (H a)) (hu : UV P w K (upd H a o) (.ref a) u') : VI P w K O H0 (upd H a o) σ (τ.set i (some u')) := by
  have hil : i < τ.length := (List.getElem?_eq_some_iff.mp e).1
  have h0 : H0 a = none := h.own i u a hi e m g
  refine ⟨by rw [List.length_set]; exact h.len, fun b q hq => ?_, ⟨by rw [List.length_set]; exact h.len, fun j x ex => ?_⟩, fun j k u1 u2 v hjk e1 e2 m1 m2 f1 f2 => ?_, fun j x b hj ex mx f => ?_⟩
  · rw [upd_ne]
    · exact h.same b q hq
    · rintro rfl
      rw [h0] at hq
      cases hq
  · by_cases hij : i = j
    · subst hij
      rw [List.getElem?_set_self hil] at ex
      cases ex
      exact ⟨_, g, hu⟩
    · rw [List.getElem?_set_ne hij] at ex
      obtain ⟨v, h1, h2⟩ := h.rel.get j x ex
      exact ⟨v, h1, h2.upd n fun mx => by
        rintro rfl
        exact h.noal i j u x _ hij e ex m mx g h1⟩
  · by_cases hij : i = j
    · subst hij
      rw [List.getElem?_set_ne hjk] at e2
      exact h.noal i k u u2 v hjk e e2 m m2 f1 f2
    · rw [List.getElem?_set_ne hij] at e1
      by_cases hik : i = k
      · subst hik
        exact h.noal j i u1 u v hjk e1 e m1 m f1 f2
      · rw [List.getElem?_set_ne hik] at e2
        exact h.noal j k u1 u2 v hjk e1 e2 m1 m2 f1 f2
  · by_cases hij : i = j
    · subst hij
      rw [g] at f
      cases f
      exact h0
    · rw [List.getElem?_set_ne hij] at ex
      exact h.own j x b hj ex mx f
end

section
variable {X : Cx} {O : List Nat} {e o : Expr} {pos tpos apos cpos : Pos}
/-- x.append(e) -/
def fApp (i : Nat) (f : Sh → Option U) : Sh → Option Res := fun τ => (fVar i τ).bind fun s => (f τ).bind fun u => match s, u with
  | .ls ds, .im d => if ds.length < sizeLine then some (.nx (τ.set i (some (.ls (ds ++ [d]))))) else none
  | _, _ => none
theorem sv_app {i : Nat} {f : Sh → Option U} {al : List Nat} (hO : i ∈ O) (hv : PE X o (tVar i)) (he : EV X e f al)
    (hbase : attributeBase o "append" X.env (eval o X.env) = eval o X.env := by rfl)
    (hfew : ((backTo cpos (starEach (e :: []) X.env)).all (fun x => !x.1) && (backToKw cpos (keywordEach [] X.env)).all (fun x => x.1.isSome)
      && decide ((e :: []).length + ([] : List Keyword).length + (if ([] : List Keyword).isEmpty then 0 else 1) < 30)) = true := by rfl)
    (hline : (apos.endLine == cpos.line) = true := by rfl) (hst : starEach (e :: []) X.env = (false, eval e X.env) :: starEach [] X.env := by rfl) (hplain : (backTo cpos (starEach [] X.env)).any (·.1) = false := by rfl)
    (hs : swapsWith (.Call (.Attribute o "append" apos) [e] [] cpos) none pos.line X.env = pure false := by rfl) : SV X O (.Expr (.Call (.Attribute o "append" apos) [e] [] cpos) pos) (fApp i f) :=
  ps_w (ps_expr (pe_bm PySem.F.plainAttrs_list PySem.F.slot_list_append PySem.F.type_list_append mt_append hv (pa_cons he pa_nil hst) hbase hfew hline hst hplain) hs) fun D σ H ⟨H0, τ, r, v, hg, p⟩ => by
    obtain ⟨s0, e0, hg1⟩ := bind_some hg
    obtain ⟨u, e1, hg2⟩ := bind_some hg1
    split at hg2
    · rename_i ds d
      split at hg2
      · rename_i hl
        cases hg2
        have e0 := join_some e0
        obtain ⟨x, g0, a, xs, rfl, ha, hx⟩ := v.rel.get i _ e0
        refine ⟨_, g0, .inl ⟨rfl, xs, SqL.of ha⟩, τ, _, v.rel, e1, fun y H1 s1 uy _ => ?_⟩
        have v1 := v.sames s1
        have ha1 := s1 _ _ ha
        refine ⟨a, xs, y, rfl, rfl, ha1, by rw [hx.length]; exact hl, p _ _ ?_⟩
        have nt : NoTup (H1 a) := by rw [ha1]; trivial
        refine v1.mut hO e0 rfl g0 nt ⟨a, _, rfl, upd_same, ?_⟩
        exact ((hx.keep (Same.tk s1)).append (.cons uy .nil)).keep (TKeep.upd nt)
      · cases hg2
    · cases hg2

/-- d[k] = e -/
def wOf : U → Option W
  | .im d => some (.k d)
  | .bl b => some (.b b)
  | _ => none
theorem wOf_wv {P : Program} {w : World} {K : PySem.W.Frag} {H : Hp} {v : V} {u : U} {q : W} (h : UV P w K H v u) (e : wOf u = some q) : WV K H v q := by
  cases u <;> first | (cases e; exact h) | cases e
def fSto (i : Nat) (fe fk : Sh → Option U) : Sh → Option Res := fun τ => (fe τ).bind fun u => (wOf u).bind fun q => (fVar i τ).bind fun s => (fk τ).bind fun k => match s, k with
  | .dc kvs, .im (.tup ks) => if kvs.length < sizeLine then some (.nx (τ.set i (some (.dc (stoD kvs (.tup ks) q))))) else none
  | _, _ => none
def rSetD (X : Cx) : V → V → V → Hp → (Hp → Prop) → Prop := fun x y z H Q => ∃ a b kvs k q, x = .ref a ∧ y = .ref b ∧ DcAt X.prog X.w X.K H a kvs ∧ kvs.length < sizeLine ∧ IV X.K H (.ref b) k ∧ WV X.K H z q ∧
  ∀ o', DcAt X.prog X.w X.K (upd H a (obO a o')) a (stoD kvs k q) → Q (upd H a (obO a o'))
theorem set_dc (hu : X.A.units + 64 < cLine) : PSet X (rSetD X) := by
  intro pins s σ H x y z ov iv u Q I r1 r2 r3 ⟨a, b, kvs, k, q, e1, e2, d, hl, hk, hz, hq⟩
  subst e1 e2
  cases r1
  cases r2
  exact dc_put hu I d hl hk r3 hz fun o' s' I' d' => ⟨_, I', hq o' d'⟩
theorem sv_sto {i : Nat} {k : Expr} {fe fk : Sh → Option U} {ale alk : List Nat} (hu : X.A.units + 64 < cLine) (hO : i ∈ O) (hv : PE X o (tVar i)) (hk : EV X k fk alk) (he : EV X e fe ale)
    (ha : ∀ v, assign (.Subscript o k tpos) X.env v = (do
      let ov ← holding [v] (eval o X.env)
      let iv ← holding [v, ov] (eval k X.env)
      standAt tpos
      holding [v, ov, iv] (setItem ov iv v)
      release [v, ov, iv] []) := by intro _; rfl)
    (hs : swapsWithSole [.Subscript o k tpos] e pos.line X.env = pure false := by rfl) (hw : swappedStores [.Subscript o k tpos] e X.env = pure none := by rfl) (h1 : (assignEach [.Subscript o k tpos] X.env).map (·.2) = [assign (.Subscript o k tpos) X.env] := by rfl) :
    SV X O (.Assign [.Subscript o k tpos] e pos) (fSto i fe fk) :=
  ps_w (ps_asg he (pg_sub hv hk (set_dc hu) ha) hs hw h1) fun D σ H ⟨H0, τ, r, v, hg, p⟩ => by
    obtain ⟨u, e1, hg1⟩ := bind_some hg
    obtain ⟨q, e2, hg2⟩ := bind_some hg1
    obtain ⟨s0, e3, hg3⟩ := bind_some hg2
    obtain ⟨kk, e4, hg4⟩ := bind_some hg3
    split at hg4
    · rename_i kvs ks
      split at hg4
      · rename_i hl
        cases hg4
        have e3 := join_some e3
        refine ⟨τ, u, v.rel, e1, fun z H1 s1 uz _ => ?_⟩
        have v1 := v.sames s1
        obtain ⟨x, g0, a, rfl, d1⟩ := v1.rel.get i _ e3
        refine ⟨_, g0, τ, _, v1.rel, e4, fun y H2 s2 uy _ => ?_⟩
        have v2 := v1.sames s2
        obtain ⟨x2, g2, a2, ex2, d2⟩ := v2.rel.get i _ e3
        rw [g0] at g2
        cases g2
        cases ex2
        obtain ⟨b, ys, rfl, _⟩ := IV.of_tup uy
        refine ⟨a, b, kvs, .tup ks, q, rfl, rfl, d2, hl, uy, wOf_wv (uz.same s2) e2, fun o' d' => p _ _ ?_⟩
        have nt : NoTup (H2 a) := by
          obtain ⟨od, ho⟩ := d2.at
          rw [ho]
          trivial
        exact v2.mut hO e3 rfl g0 nt ⟨a, rfl, d'⟩
      · cases hg4
    · cases hg4
end

/-! ### what is walked -/
/-- the iterator J yields ds, whatever else the heap holds -/
def ItS (K : PySem.W.Frag) (J : It) (ds : List D) (H' : Hp) : Prop := ∀ i, (∀ d, ds[i]? = some d → J.go i H' ∧ ∀ x H'', J.yld i H' x H'' → Same H' H'' ∧ IV K H'' x d) ∧ (ds.length = i → J.stop i H')
def iV (X : Cx) (fi : Sh → Option (List D)) (al : List Nat) : TI := fun σ H R => ∃ τ ds, ShRel X.prog X.w X.K H σ τ ∧ fi τ = some ds ∧ ∀ J H1 (na : List Addr), Same H H1 →
  (∀ a ∈ na, (∃ o, H1 a = some o) ∧ (H a = none ∨ ∃ j ∈ al, ∃ u, τ[j]? = some (some u) ∧ mutU u = true ∧ σ[j]? = some (some (.ref a)))) → (∀ H', TKeep X.K H1 H' → (∀ a ∈ na, H' a = H1 a) → ItS X.K J ds H') → R J H1
def IVt (X : Cx) (tg iter : Expr) (fi : Sh → Option (List D)) (al : List Nat) : Prop := PI X tg iter (iV X fi al)
section
variable {X : Cx} {tg e : Expr} {pos p apos cpos : Pos}
theorem pi_w {iter : Expr} {t t' : TI} (h : PI X tg iter t) (k : ∀ σ H R, t' σ H R → t σ H R) : PI X tg iter t' := ⟨fun pins s σ H R I q => h.run pins s σ H R I (k σ H R q)⟩
def itemsU : U → Option (List D)
  | .im (.tup ds) => some ds
  | .ls ds => some ds
  | _ => none
def fItems (f : Sh → Option U) : Sh → Option (List D) := fun τ => (f τ).bind itemsU
theorem seqT_inj {pins : List (Addr × Obj)} {σ : St} {H : Hp} {s : Shared} {a : Addr} {xs ys : List V} (I : Inv X pins σ H s) (h : SqT X.K H a xs) (h' : SqT X.K H a ys) : xs = ys := I.tuple_inj h h'
theorem it_tup {K : PySem.W.Frag} {H' : Hp} {a : Addr} {xs : List V} {ds : List D} (h : SqT K H' a xs) (u : ∀ ys, SqT K H' a ys → ys = xs) (hx : IVs K H' xs ds) : ItS K (Itt K a) ds H' := fun i => by
  refine ⟨fun d e => ?_, fun hi => ⟨xs, h, by rw [hx.length]; exact Nat.le_of_eq hi⟩⟩
  obtain ⟨v, h1, h2⟩ := hx.get e
  refine ⟨⟨xs, v, h, h1⟩, fun x H'' y => ?_⟩
  obtain ⟨rfl, y⟩ := y
  have z := y xs h
  rw [h1] at z
  cases z
  exact ⟨Same.refl _, h2⟩
theorem it_list {K : PySem.W.Frag} {H' : Hp} {a : Addr} {xs : List V} {ds : List D} (h : SqL K H' a xs) (hx : IVs K H' xs ds) : ItS K (Itl K a) ds H' := fun i => by
  refine ⟨fun d e => ?_, fun hi => ⟨xs, h, by rw [hx.length]; exact Nat.le_of_eq hi⟩⟩
  obtain ⟨v, h1, h2⟩ := hx.get e
  refine ⟨⟨xs, v, h, h1⟩, fun x H'' y => ?_⟩
  obtain ⟨rfl, y⟩ := y
  have z := y xs h
  rw [h1] at z
  cases z
  exact ⟨Same.refl _, h2⟩
theorem iv_seq {f : Sh → Option U} {al : List Nat} (he : EV X e f al) : IVt X tg e (fItems f) al := by
  refine ⟨fun pins s σ H R I ⟨τ, ds, hr, hf, q⟩ => ?_⟩
  obtain ⟨u, e1, e2⟩ := bind_some hf
  unfold itemsU at e2
  split at e2
  · cases e2
    refine (pi_tup he).run pins s σ H R I ⟨τ, _, hr, e1, fun v H1 s1 uv _ => ?_⟩
    obtain ⟨a, xs, rfl, ht, hx⟩ := IV.of_tup uv
    refine ⟨a, rfl, ⟨xs, ht⟩, q _ H1 [] s1 (fun _ z => by cases z) fun H' k _ i => ?_⟩
    have hx' := hx.keep k
    refine ⟨fun d e => ?_, fun hi => ⟨xs, k _ _ ht, by rw [hx.length]; exact Nat.le_of_eq hi⟩⟩
    obtain ⟨v, h1, h2⟩ := hx'.get e
    refine ⟨⟨xs, v, k _ _ ht, h1⟩, fun x H'' y => ?_⟩
    obtain ⟨rfl, y⟩ := y
    have z := y xs (k _ _ ht)
    rw [h1] at z
    cases z
    exact ⟨Same.refl _, h2⟩
  · cases e2
    refine (pi_list he).run pins s σ H R I ⟨τ, _, hr, e1, fun v H1 s1 uv fv => ?_⟩
    obtain ⟨a, xs, rfl, ht, hx⟩ := uv
    refine ⟨a, rfl, ⟨xs, SqL.of ht⟩, q _ H1 [a] s1 (fun b hb => ?_) fun H' k ka => it_list (SqL.of (by rw [ka a (by simp)]; exact ht)) (hx.keep k)⟩
    have eb : b = a := by simpa using hb
    subst eb
    refine ⟨⟨_, ht⟩, ?_⟩
    rcases fv rfl with ⟨c, ec, hc⟩ | ⟨j, hj, g1, g2⟩
    · cases ec
      exact .inl hc
    · exact .inr ⟨j, hj, _, g2, rfl, g1⟩
  · cases e2
/-! ranges -/
def rngD (lo : Int) (n : Nat) : List D := (List.range n).map fun (k : Nat) => NestedKey.num (lo + (k : Int))
def fRng1 (fa : Sh → Option (List U)) : Sh → Option (List D) := fun τ => (fa τ).bind fun us => match us with
  | [.im (.num j)] => if -(2 ^ 62) ≤ j ∧ j < 2 ^ 62 then some (rngD 0 j.toNat) else none
  | _ => none
def fRng2 (fa : Sh → Option (List U)) : Sh → Option (List D) := fun τ => (fa τ).bind fun us => match us with
  | [.im (.num i), .im (.num j)] => if -(2 ^ 62) ≤ i ∧ i < 2 ^ 62 ∧ -(2 ^ 62) ≤ j ∧ j < 2 ^ 62 then some (rngD i (j - i).toNat) else none
  | _ => none
theorem it_rng {K : PySem.W.Frag} {H' : Hp} (lo : Int) (n : Nat) : ItS K (Itr lo n) (rngD lo n) H' := fun i => by
  refine ⟨fun d e => ?_, fun hi => by show n ≤ i; have hi := Nat.le_of_eq hi; simpa [rngD] using hi⟩
  unfold rngD at e
  rw [List.getElem?_map] at e
  obtain ⟨k, e1, rfl⟩ := Option.map_eq_some_iff.mp e
  have hk : i < n := by
    have := (List.getElem?_eq_some_iff.mp e1).1
    simpa using this
  rw [List.getElem?_range hk] at e1
  cases e1
  refine ⟨hk, fun x H'' y => ?_⟩
  obtain ⟨rfl, rfl⟩ := y
  exact ⟨Same.refl _, IV.num⟩
theorem iv_rng1 {a : Expr} {fa : Sh → Option (List U)} (hg : Gl X "range") (hm : X.mg "range" = none) (ha : AV X [a] fa) (hs : starEach [a] X.env = [(false, eval a X.env)] := by rfl) : IVt X tg (.Call (.Name "range" p) [a] [] pos) (fRng1 fa) [] :=
  pi_w (pi_range1 hg hm ha hs) fun σ H R ⟨τ, ds, hr, hf, q⟩ => by
    obtain ⟨us, e1, e2⟩ := bind_some hf
    split at e2
    · rename_i j
      split at e2
      · rename_i hb
        cases e2
        refine ⟨τ, _, hr, e1, fun vs H1 s1 uv => ?_⟩
        obtain ⟨x, rfl, hx⟩ := uvs1 uv
        cases IV.of_num hx
        exact ⟨j, rfl, hb.1, hb.2, q _ H1 [] s1 (fun _ z => by cases z) fun H' _ _ => it_rng 0 j.toNat⟩
      · cases e2
    · cases e2
theorem uvs2 {P : Program} {w : World} {K : PySem.W.Frag} {H : Hp} {xs : List V} {u v : U} (h : UVs P w K H xs [u, v]) : ∃ x y, xs = [x, y] ∧ UV P w K H x u ∧ UV P w K H y v := by
  cases h with
  | cons a b =>
    obtain ⟨y, rfl, hy⟩ := uvs1 b
    exact ⟨_, y, rfl, a, hy⟩
theorem iv_rng2 {a b : Expr} {fa : Sh → Option (List U)} (hg : Gl X "range") (hm : X.mg "range" = none) (ha : AV X [a, b] fa) (hs : starEach [a, b] X.env = [(false, eval a X.env), (false, eval b X.env)] := by rfl) (hs2 : starEach [b] X.env = [(false, eval b X.env)] := by rfl) : IVt X tg (.Call (.Name "range" p) [a, b] [] pos) (fRng2 fa) [] :=
  pi_w (pi_range2 hg hm ha hs hs2) fun σ H R ⟨τ, ds, hr, hf, q⟩ => by
    obtain ⟨us, e1, e2⟩ := bind_some hf
    split at e2
    · rename_i i j
      split at e2
      · rename_i hb
        cases e2
        refine ⟨τ, _, hr, e1, fun vs H1 s1 uv => ?_⟩
        obtain ⟨x, y, rfl, hx, hy⟩ := uvs2 uv
        cases IV.of_num hx
        cases IV.of_num hy
        exact ⟨i, j, rfl, hb, q _ H1 [] s1 (fun _ z => by cases z) fun H' _ _ => it_rng i (j - i).toNat⟩
      · cases e2
    · cases e2
/-! d.keys() -/
def ItK (d : Addr) (o : Obj) (ents : List (D × Addr × Value)) : It :=
  ⟨fun i H => H d = some (obO d o) ∧ i < ents.length, fun i H x H' => H' = H ∧ ∃ y, ents[i]? = some y ∧ x = .ref y.2.1, fun i H => H d = some (obO d o) ∧ ents.length ≤ i⟩
theorem turn_dkeys {P : Program} {w : World} {K : PySem.W.Frag} {d it : Addr} {o : Obj} {es : Array DictEntry} {ep : Nat} {ents : List (D × Addr × Value)} (ed : o.ExactDict) (hd : o.data = .dict es ep) (hes : es.toList = ents.map (entryOfKey (nestedKind P w))) :
    Turn P w K tg (ItK d o ents) [it] it (fun i h => h.IsKeyIter it d i es.size ep) := by
  have hsz := size_of_entries hes
  refine ⟨List.mem_cons_self, fun i h q b hb => ?_, fun i h h' q k => q.at fun oi z => k it List.mem_cons_self oi z, ?_, ?_, fun A i s Q E q h => wpAny_pyIter_keyiter q h⟩
  · cases List.mem_singleton.mp hb
    obtain ⟨oi, h1, h2, h3⟩ := q
    exact ⟨oi, h1, fun v z => by rw [h3] at z; cases z⟩
  · intro X hP hw hK hc i pins s σ H E I hf q hg
    subst hP hw hK
    obtain ⟨a1, a2, a3, a4, a5, a6⟩ := hf it List.mem_cons_self
    have hi : i < es.size := by rw [hsz]; exact hg.2
    have raw : s.heap.DictRaw d es ep := ⟨o, (I.hok d _ hg.1).1, ed, hd⟩
    refine wpAny_pyNext_keys_item_raw q raw hi fun h1 q1 sb => ?_
    have I1 : Inv X pins σ H { s with heap := h1 } := I.turned (t' := s.toks) (fun b ob hb z => (sb.2 b hb).trans z) a1 a2 a4 a5 a6
    obtain ⟨oi, z1, z2, z3⟩ := id q1
    have ej := entry_at hes i
    rw [Array.getElem?_eq_getElem hi] at ej
    cases ey : ents[i]? with
    | none => rw [ey] at ej; cases ej
    | some y =>
      rw [ey] at ej
      have e5 : es[i] = entryOfKey (nestedKind X.prog X.w) y := Option.some.inj ej
      refine ⟨_, rfl, go_of (s := { s with heap := h1 }) z1 z2 z3 (by decide) ⟨.ref y.2.1, H, I1, ?_, ⟨rfl, y, ey, rfl⟩, q1, fun b hb => (hf b hb).1⟩⟩
      rw [e5]
      rfl
  · intro X hP hw hK hc i pins s σ H E I hf q hg
    subst hP hw hK
    obtain ⟨a1, a2, a3, a4, a5, a6⟩ := hf it List.mem_cons_self
    have raw : s.heap.DictRaw d es ep := ⟨o, (I.hok d _ hg.1).1, ed, hd⟩
    exact wpAny_pyNext_keys_end_raw (I.ok.hd hc) q raw (by rw [hsz]; exact hg.2) fun h1 eb => ⟨rfl, I.turned (t' := s.toks) (fun b ob hb z => eb b ob hb z) a1 a2 a4 a5 a6⟩
def fKeysI (f : Sh → Option U) : Sh → Option (List D) := fun τ => (f τ).bind keysU
theorem iv_keys {f : Sh → Option U} {al : List Nat} (he : EV X e f al) (hbase : attributeBase e "keys" X.env (eval e X.env) = eval e X.env := by rfl) (hline : (apos.endLine == cpos.line) = true := by rfl) : IVt X tg (.Call (.Attribute e "keys" apos) [] [] cpos) (fKeysI f) al := by
  refine ⟨fun pins s σ H R I ⟨τ, ds, hr, hf, q⟩ => ?_⟩
  obtain ⟨u, e1, e2⟩ := bind_some hf
  cases u with
  | dc kvs =>
    cases e2
    have h0 := he.run pins s σ H (fun v H' => Same H H' ∧ UV X.prog X.w X.K H' v (.dc kvs) ∧ Frs H σ τ al v (.dc kvs)) I ⟨τ, _, hr, e1, fun v H' s1 u1 fv => ⟨s1, u1, fv⟩⟩
    refine wpAny_Call_method (T := "dict") (id := "dict.keys") hbase rfl hline PySem.F.plainAttrs_dict PySem.F.slot_dict_keys PySem.F.type_dict_keys (thn h0 fun u s1 ⟨x, H1, I1, rx, sm1, ⟨a, ex, d1⟩, fv⟩ => ?_)
    subst ex
    obtain rfl : u = Value.ref a := rx
    obtain ⟨hd0, hlen, od, es, ep, xs, hH, ed, hdt, hes, _, hp⟩ := id d1
    have eo : s1.heap.get? a = some od := (I1.hok a _ hH).1
    refine ⟨⟨od, eo, ed.1⟩, fun b eb => by cases eb; exact ⟨od, eo, ed.2.1⟩, ?_⟩
    have I2 : Inv X pins σ H1 { s1 with heap := s1.heap.push (keysObj a) } := I1.kept (t' := s1.toks) fun b ob z => Heap.get?_push_of_some _ z
    have raw2 : (s1.heap.push (keysObj a)).DictRaw a es ep := ⟨od, Heap.get?_push_of_some _ eo, ed, hdt⟩
    have fin : wpAny (model X.prog X.w) X.A (pyIter (.ref s1.heap.objs.size)) (PIE X pins σ tg R) X.xe { s1 with heap := s1.heap.push (keysObj a) } := by
      refine wpAny_pyIter_keys_raw (d := a) ⟨_, Heap.get?_push_size _ rfl, rfl, rfl⟩ raw2 (pi_one (tk := s1.toks) I2 _ (turn_dkeys ed hdt hes) ⟨_, Heap.get?_push_size _ rfl, rfl, rfl⟩ ?_)
      refine q _ H1 [a] sm1 (fun b hb => ?_) fun H' k ka i => ?_
      · cases List.mem_singleton.mp hb
        refine ⟨⟨_, hH⟩, ?_⟩
        rcases fv rfl with ⟨c, ec, hc⟩ | ⟨j, hj, g1, g2⟩
        · cases ec
          exact .inl hc
        · exact .inr ⟨j, hj, _, g2, rfl, g1⟩
      · have hH' : H' a = some (obO a od) := by rw [ka a List.mem_cons_self]; exact hH
        have hl := Paired.length hp
        refine ⟨fun d e => ⟨⟨hH', ?_⟩, fun x H'' y => ?_⟩, fun hi => ⟨hH', by rw [← hl]; have hi := Nat.le_of_eq hi; simpa using hi⟩⟩
        · have := (List.getElem?_eq_some_iff.mp e).1
          rw [← hl]
          simpa using this
        · obtain ⟨rfl, y0, ey, rfl⟩ := y
          have ek := ent_keys hp
          rw [← ek, List.getElem?_map, ey] at e
          cases e
          exact ⟨Same.refl _, (ent_mem hp y0 (List.mem_of_getElem? ey)).keep k⟩
    show wpAny _ _ (callWith cpos (.builtin "dict.keys") [.ref a] [] []) _ X.xe s1
    exact method_meetsIn PySem.F.slot_dict_keys PySem.F.entry_dict_keys rfl (PySem.evalArgs_none ⟨rfl, ⟨od, eo, ed.1⟩, PySem.F.args_dict_keys_1 _, _, meets_dict_keys_raw a hd0, ⟨es, ep, od, eo, ed, hdt⟩, fin⟩)
  | _ => cases e2
end
end VL

set_option Elab.async false
set_option linter.all false
set_option maxRecDepth 100000
set_option maxHeartbeats 400000
/-! VLj: enumerate; targets; loops. -/
namespace VL
open PySem L2

/-! ### enumerate -/
def enumD : Nat → List D → List D
  | _, [] => []
  | n, d :: ds => .tup [.num (n : Int), d] :: enumD (n + 1) ds
theorem enumD_get : ∀ (ds : List D) (n i : Nat) (d : D), (enumD n ds)[i]? = some d → ∃ e, ds[i]? = some e ∧ d = .tup [.num ((n + i : Nat) : Int), e]
  | [], n, i, d, h => by simp [enumD] at h
  | e :: ds, n, 0, d, h => by
    simp [enumD] at h
    exact ⟨e, rfl, h.symm⟩
  | e :: ds, n, i + 1, d, h => by
    obtain ⟨x, h1, h2⟩ := enumD_get ds (n + 1) i d (by simpa [enumD] using h)
    refine ⟨x, by simpa using h1, ?_⟩
    rw [h2, show n + 1 + i = n + (i + 1) by omega]
theorem enumD_length : ∀ (ds : List D) (n : Nat), (enumD n ds).length = ds.length
  | [], n => rfl
  | e :: ds, n => by simp [enumD, enumD_length ds (n + 1)]
set_option maxHeartbeats 1000000 in
theorem meets_enum_tup (t : Addr) (items : Array Value) :
    Meets (Builtin.«enumerate.__new__» ⟨[.type "enumerate", .ref t], []⟩) (fun _ R s => s.heap.IsTuple t items ∧
      R (.ok (.ret (.ref (s.heap.push { cls := .type "tuple_iterator", data := .fields #[.ref t, .int 0 0] }).objs.size)))
        { s with heap := (s.heap.push { cls := .type "tuple_iterator", data := .fields #[.ref t, .int 0 0] }).push { cls := .type "enumerate", data := .fields #[.none, .bool false, .ref s.heap.objs.size, rawInt 0, .none, .none] } }) :=
  .of_wp fun P w A R s z => by
    obtain ⟨hp, gs, dr, tk, os⟩ := s
    obtain ⟨ht, z⟩ := z
    have hsub := sub_enumerate
    have begins : ∀ {A' : Around} {E : Value → Shared → Prop} {Q : Value → Shared → Prop}, Q (.ref hp.objs.size) ⟨hp.push { cls := .type "tuple_iterator", data := .fields #[.ref t, .int 0 0] }, gs, dr, tk, os⟩ → wpAny (model P w) A' (pyIter (.ref t)) Q E ⟨hp, gs, dr, tk, os⟩ :=
      fun q => wpAny_pyIter_tuple ht q
    wp_walk using begins
    refine wpAny_stack_any fun _ => wpAny_pure ?_
    split
    · rename_i cc _ _ _ _ _
      cases (cc == Value.type "enumerate") <;> (wp_walk using begins; exact ⟨_, rfl, z⟩)
    · wp_walk using begins
      exact ⟨_, rfl, z⟩

/-- the tuple at a, each item in a new pair with its number -/
def ItE (K : PySem.W.Frag) (a : Addr) : It :=
  ⟨fun i H => ∃ (xs : List V) (x : V), SqT K H a xs ∧ xs[i]? = some x, fun i H v H' => ∃ T x, v = .ref T ∧ H T = none ∧ H' = upd H T (.tup [.int (i : Nat), x]) ∧ ∀ xs, SqT K H a xs → xs[i]? = some x, fun i H => ∃ xs : List V, SqT K H a xs ∧ xs.length = i⟩
theorem turn_enumT {P : Program} {w : World} {K : PySem.W.Frag} {elts : List Expr} {kk : Nat} {tpos : Pos} (a e it : Addr) :
    Turn P w K (.Tuple elts kk tpos) (ItE K a) [e, it] e (fun i h => (∃ old, IsEnum h e it ((i : Nat) : Int) old) ∧ h.IsTupleIter it a i ∧ e ≠ it ∧ a ≠ it ∧ a ≠ e) := by
  refine ⟨List.mem_cons_self, fun i h q b hb => ?_, fun i h h' q k => ?_, ?_, ?_, fun A i s Q E q z => ?_⟩
  · obtain ⟨⟨old, h1⟩, ⟨o, h2, h3, h4⟩, _⟩ := q
    rcases List.mem_cons.mp hb with rfl | hb
    · exact ⟨_, h1, fun v z => nomatch z⟩
    · cases List.mem_singleton.mp hb
      exact ⟨o, h2, fun v z => by rw [h4] at z; cases z⟩
  · obtain ⟨⟨old, h1⟩, h2, h3⟩ := q
    exact ⟨⟨old, k e List.mem_cons_self _ h1⟩, h2.at fun o z => k it (List.mem_cons_of_mem _ List.mem_cons_self) o z, h3⟩
  · intro X hP hw hK hc i pins s σ H E I hf q hg
    subst hP hw hK
    obtain ⟨⟨old, h1⟩, h2, h3, h4, h5⟩ := q
    obtain ⟨xs, x, hq, hx⟩ := hg
    obtain ⟨its, rv, p, hz⟩ := I.tuple hq
    obtain ⟨u, hu, ru⟩ := rv.get hx
    have hel : e < s.heap.objs.size := Heap.lt_size h1
    have hil : it < s.heap.objs.size := by obtain ⟨_, z, _⟩ := h2; exact Heap.lt_size z
    have hlt : i < its.toArray.size := by rw [List.size_toArray]; exact (List.getElem?_eq_some_iff.mp hu).1
    refine wpAny_pyNext_enum_itemD (Draws.tuple (prog := X.prog) (w := X.w) (A := X.A.in1) (I.ok.hd hc) it a h4 its.toArray) h1 ⟨h2, p⟩ hlt h3 (by simp [h3, Ne.symm h5]) fun y h' tk hP ho hst hT hsz hk => ?_
    have ey : y = u := by
      have hP : its.toArray[i]? = some y := hP
      rw [List.getElem?_toArray, hu] at hP
      exact (Option.some.inj hP).symm
    subst ey
    refine ⟨_, rfl, wpAny_letOwnedTupleGo_enum (s := { s with heap := h', toks := tk + 1 }) ho fun h2' he' sb => ?_⟩
    have hT2 : h2'.get? s.heap.objs.size = some { cls := .type "tuple", data := .seq #[.int i tk, y] } := (sb.2 _ (Nat.ne_of_gt hel)).trans hT
    have I1 : Inv X pins σ (upd H s.heap.objs.size (.tup [.int (i : Nat), x])) { s with heap := h2', toks := tk + 1 } :=
      I.turnedNew (ch := [e, it]) (fun b ob hb z => (sb.2 b (fun w => hb (by simp [w]))).trans (hk b ob (fun w => hb (by simp [w])) (fun w => hb (by simp [w])) z)) hf (Nat.le_refl _)
        ⟨by show 2 ≤ sizeLine; decide, [.int i tk, y], .cons ⟨_, rfl⟩ (.cons ru .nil), ⟨_, hT2, rfl, _, rfl⟩⟩
    refine ⟨.ref s.heap.objs.size, _, I1, rfl, ⟨_, x, rfl, I.hok.fresh (Nat.le_refl _), rfl, fun ys hy => by rw [I.tuple_inj hy hq]; exact hx⟩, ⟨⟨y, ?_⟩, hst.1.at fun o z => (sb.2 it (Ne.symm h3)).trans z, h3, h4, h5⟩, fun b hb => ?_⟩
    · rw [show ((i + 1 : Nat) : Int) = (i : Int) + 1 by omega]
      exact he'
    · have hb' : b < s.heap.objs.size := by
        rcases List.mem_cons.mp hb with rfl | hb
        · exact hel
        · cases List.mem_singleton.mp hb
          exact hil
      rw [upd_ne (Nat.ne_of_lt hb')]
      exact (hf b hb).1
  · intro X hP hw hK hc i pins s σ H E I hf q hg
    subst hP hw hK
    obtain ⟨⟨old, h1⟩, h2, h3, h4, h5⟩ := q
    obtain ⟨xs, hq, hx⟩ := hg
    obtain ⟨its, rv, p, hz⟩ := I.tuple hq
    obtain ⟨a1, a2, a3, a4, a5, a6⟩ := hf it (by simp)
    have hl := rv.length
    have hi : i = its.toArray.size := by rw [List.size_toArray, ← hl]; exact hx.symm
    subst hi
    exact wpAny_pyNext_enum_endD (Draws.tuple (prog := X.prog) (w := X.w) (A := X.A.in1) (I.ok.hd hc) it a h4 its.toArray) h1 ⟨h2, p⟩ fun h' eb => ⟨rfl, I.turned (t' := s.toks) (fun b o hb z => eb b o hb z) a1 a2 a4 a5 a6⟩
  · obtain ⟨⟨_, h1⟩, _⟩ := q
    exact wpAny_pyIter_enum h1 z

section
variable {X : Cx} {tg e : Expr} {pos p apos cpos tpos : Pos} {elts : List Expr} {kk : Nat}
def fEnum (f : Sh → Option U) : Sh → Option (List D) := fun τ => (f τ).bind fun u => (itemsU u).bind fun ds => if NestedKey.depthAll ds ≤ 7 then some (enumD 0 ds) else none
theorem dep_pair {ds : List D} {d : D} {n : Int} (h : NestedKey.depthAll ds ≤ 7) (m : d ∈ ds) : NestedKey.depthAll [.num n, d] ≤ 7 := by
  have := depth_mem m
  simp only [NestedKey.depthAll, NestedKey.depth]
  omega
theorem iv_enum {f : Sh → Option U} {al : List Nat} (hg : Gl X "enumerate") (hm : X.mg "enumerate" = none) (he : EV X e f al) (hst : starEach [e] X.env = (false, eval e X.env) :: starEach [] X.env := by rfl) (hs : starEach [e] X.env = [(false, eval e X.env)] := by rfl) :
    IVt X (.Tuple elts kk tpos) (.Call (.Name "enumerate" p) [e] [] pos) (fEnum f) al := by
  refine ⟨fun pins s σ H R I ⟨τ, es, hr, hf, q⟩ => ?_⟩
  obtain ⟨u, e1, hf1⟩ := bind_some hf
  obtain ⟨ds, e2, hf2⟩ := bind_some hf1
  split at hf2
  · rename_i hd
    cases hf2
    unfold itemsU at e2
    split at e2
    · cases e2
      -- a tuple
      refine PyProof.Rows.Call_ (ld_blt I hg hm PyProof.Rows.boot_enumerate (PyProof.Rows.callWith_type1 (thn ((pa_cons he pa_nil hst).run pos pins s σ H (fun vs H' => ∃ v, vs = [v] ∧ Same H H' ∧ IV X.K H' v (.tup ds)) I ⟨τ, _, hr, e1, fun v H1 s1 uv _ => ⟨v, rfl, s1, uv⟩⟩) fun us s1 ⟨vs, H1, I1, r1, v, ev, sm, iv⟩ => ?_) hs rfl))
      subst ev
      obtain ⟨a, xs, rfl, ht, hx⟩ := iv.of_tup
      obtain ⟨u1, rfl, ru⟩ := vals1 r1
      cases ru
      obtain ⟨its, rv, p', hz⟩ := I1.tuple ht
      have hta : a < s1.heap.objs.size := by obtain ⟨o, ho, _⟩ := p'; exact Heap.lt_size ho
      refine callType_new PySem.F.called_enumerate (by decide) (PySem.F.typeCall_enumerate_1 _) (PySem.F.newCall_enumerate_1 _) (fun obj => PySem.F.args_object_init_2 obj _) PySem.F.entry_enumerate_new (meets_enum_tup a its.toArray) ⟨p', ?_⟩
      have hsz : (s1.heap.push { cls := .type "tuple_iterator", data := .fields #[.ref a, .int 0 0] }).objs.size = s1.heap.objs.size + 1 := Heap.size_push ..
      show _ ∧ _
      rw [hsz]
      have hen : IsEnum ((s1.heap.push { cls := .type "tuple_iterator", data := .fields #[.ref a, .int 0 0] }).push { cls := .type "enumerate", data := .fields #[.none, .bool false, .ref s1.heap.objs.size, rawInt 0, .none, .none] }) (s1.heap.objs.size + 1) s1.heap.objs.size 0 .none := by
        have z := Heap.get?_push_size (s1.heap.push { cls := .type "tuple_iterator", data := .fields #[.ref a, .int 0 0] }) (o := { cls := .type "enumerate", data := .fields #[.none, .bool false, .ref s1.heap.objs.size, rawInt 0, .none, .none] }) rfl
        rw [hsz] at z
        exact z
      refine ⟨⟨_, hen, rfl⟩, wpAny_pyIter_enum hen ?_⟩
      have I2 : Inv X pins σ H1 { s1 with heap := (s1.heap.push { cls := .type "tuple_iterator", data := .fields #[.ref a, .int 0 0] }).push { cls := .type "enumerate", data := .fields #[.none, .bool false, .ref s1.heap.objs.size, rawInt 0, .none, .none] } } :=
        I1.kept (t' := s1.toks) fun b o z => Heap.get?_push_of_some _ (Heap.get?_push_of_some _ z)
      refine ⟨s1.heap.objs.size + 1, [s1.heap.objs.size + 1, s1.heap.objs.size], _, ItE X.K a, H1, rfl, I2, turn_enumT a (s1.heap.objs.size + 1) s1.heap.objs.size, ⟨⟨.none, hen⟩, ⟨_, Heap.get?_push_of_some _ (Heap.get?_push_size _ rfl), rfl, rfl⟩, Nat.succ_ne_self _, Nat.ne_of_lt hta, Nat.ne_of_lt (Nat.lt_succ_of_lt hta)⟩, fun b hb => ?_, ?_⟩
      · have hle : s1.heap.objs.size ≤ b := by
          rcases List.mem_cons.mp hb with rfl | hb
          · exact Nat.le_succ _
          · cases List.mem_singleton.mp hb
            exact Nat.le_refl _
        exact I1.fpOk hle (I1.hok.fresh hle)
      · refine q _ H1 [] sm (fun _ z => by cases z) fun H' k _ i => ?_
        have hx' := hx.keep k
        refine ⟨fun d z => ?_, fun hi => ⟨xs, k _ _ ht, by rw [hx.length, ← hi, enumD_length]⟩⟩
        obtain ⟨d0, z1, rfl⟩ := enumD_get ds 0 i d z
        obtain ⟨v, h1, h2⟩ := hx'.get z1
        refine ⟨⟨xs, v, k _ _ ht, h1⟩, fun x H'' y => ?_⟩
        obtain ⟨T, x0, rfl, hT, rfl, y⟩ := y
        have z3 := y xs (k _ _ ht)
        rw [h1] at z3
        cases z3
        have sp := laid_same (o := .tup [.int (i : Nat), v]) hT
        rw [Nat.zero_add]
        exact ⟨sp, IV.tup (SqT.of upd_same) (.cons IV.num (.cons (h2.keep (Same.tk sp)) .nil)) (dep_pair hd (List.mem_of_getElem? z1))⟩
    · cases e2
      -- a list
      refine (pi_enum hg hm (pa_cons he pa_nil hst) hs).run pins s σ H R I ⟨τ, _, hr, e1, fun v H1 s1 uv fv => ?_⟩
      obtain ⟨a, xs, rfl, ht, hx⟩ := uv
      refine ⟨a, xs, rfl, SqL.of ht, q _ H1 [a] s1 (fun b hb => ?_) fun H' k ka i => ?_⟩
      · cases List.mem_singleton.mp hb
        refine ⟨⟨_, ht⟩, ?_⟩
        rcases fv rfl with ⟨c, ec, hc⟩ | ⟨j, hj, g1, g2⟩
        · cases ec
          exact .inl hc
        · exact .inr ⟨j, hj, _, g2, rfl, g1⟩
      · have ht' : SqL X.K H' a xs := SqL.of (by rw [ka a List.mem_cons_self]; exact ht)
        have hx' := hx.keep k
        refine ⟨fun d z => ?_, fun hi => ⟨xs, ht', by rw [hx.length, ← hi, enumD_length]; exact Nat.le_refl _⟩⟩
        obtain ⟨d0, z1, rfl⟩ := enumD_get ds 0 i d z
        obtain ⟨v, h1, h2⟩ := hx'.get z1
        refine ⟨⟨xs, v, ht', h1⟩, fun x H'' y => ?_⟩
        obtain ⟨T, x0, rfl, hT, rfl, y⟩ := y
        have z3 := y xs ht'
        rw [h1] at z3
        cases z3
        have sp := laid_same (o := .tup [.int (i : Nat), v]) hT
        rw [Nat.zero_add]
        exact ⟨sp, IV.tup (SqT.of upd_same) (.cons IV.num (.cons (h2.keep (Same.tk sp)) .nil)) (dep_pair hd (List.mem_of_getElem? z1))⟩
    · cases e2
  · cases hf2
end
end VL

set_option Elab.async false
set_option linter.all false
set_option maxRecDepth 100000
set_option maxHeartbeats 400000
/-! VLk: targets, loops. -/
namespace VL
open PySem L2

/-- what a target does: slots of is take data, all else stays -/
structure SetIm (is : List Nat) (σ : St) (τ : Sh) (σ' : St) (τ' : Sh) : Prop where
  l1 : σ'.length = σ.length
  l2 : τ'.length = τ.length
  out : ∀ j, j ∉ is → σ'[j]? = σ[j]? ∧ τ'[j]? = τ[j]?
  im : ∀ j ∈ is, ∀ u, τ'[j]? = some (some u) → mutU u = false
section
variable {P : Program} {w : World} {K : PySem.W.Frag} {O : List Nat} {H0 H H' : Hp} {σ σ' : St} {τ τ' : Sh} {is : List Nat}
theorem ShRel.set {i : Nat} {v : V} {u : U} (h : ShRel P w K H σ τ) (hu : UV P w K H v u) : ShRel P w K H (σ.set i (some v)) (τ.set i (some u)) := ⟨by rw [List.length_set, List.length_set]; exact h.len, fun j x e => by
  by_cases hj : i = j
  · subst hj
    have hi : i < τ.length := by
      rcases Nat.lt_or_ge i τ.length with q | q
      · exact q
      · rw [List.getElem?_eq_none (by rw [List.length_set]; exact q)] at e; cases e
    rw [List.getElem?_set_self hi] at e
    cases e
    exact ⟨v, List.getElem?_set_self (by rw [← h.len]; exact hi), hu⟩
  · rw [List.getElem?_set_ne hj] at e
    obtain ⟨v', h1, h2⟩ := h.get j x e
    exact ⟨v', by rw [List.getElem?_set_ne hj]; exact h1, h2⟩⟩
theorem setAll_rel : ∀ {is : List Nat} {vs : List V} {ds : List D} {σ : St} {τ : Sh}, ShRel P w K H σ τ → IVs K H vs ds → ShRel P w K H (setAll is vs σ) (setAllU is (ds.map .im) τ)
  | [], _, _, σ, τ, h, _ => by unfold setAll setAllU; exact h
  | i :: is, _, _, σ, τ, h, .nil => by unfold setAll setAllU; exact h
  | i :: is, _, _, σ, τ, h, .cons a b => by
    unfold setAll setAllU
    exact setAll_rel (h.set (u := .im _) a) b
theorem setAll_im : ∀ {is : List Nat} {vs : List V} {ds : List D} {σ : St} {τ : Sh}, vs.length = ds.length → ds.length = is.length → SetIm is σ τ (setAll is vs σ) (setAllU is (ds.map .im) τ)
  | [], [], [], σ, τ, _, _ => ⟨rfl, rfl, fun _ _ => ⟨rfl, rfl⟩, fun _ z => by cases z⟩
  | i :: is, v :: vs, d :: ds, σ, τ, h1, h2 => by
    have q := setAll_im (is := is) (vs := vs) (ds := ds) (σ := σ.set i (some v)) (τ := τ.set i (some (.im d))) (Nat.succ.inj h1) (Nat.succ.inj h2)
    unfold setAll
    rw [List.map_cons]
    unfold setAllU
    refine ⟨by rw [q.l1, List.length_set], by rw [q.l2, List.length_set], fun j hj => ?_, fun j hj u e => ?_⟩
    · rw [List.mem_cons, not_or] at hj
      obtain ⟨z1, z2⟩ := q.out j hj.2
      exact ⟨by rw [z1, List.getElem?_set_ne (Ne.symm hj.1)], by rw [z2, List.getElem?_set_ne (Ne.symm hj.1)]⟩
    · by_cases hjs : j ∈ is
      · exact q.im j hjs u e
      · obtain ⟨z1, z2⟩ := q.out j hjs
        rw [z2] at e
        rcases List.mem_cons.mp hj with rfl | hj
        · have hi : j < τ.length := by
            rcases Nat.lt_or_ge j τ.length with g | g
            · exact g
            · rw [List.getElem?_eq_none (by rw [List.length_set]; exact g)] at e; cases e
          rw [List.getElem?_set_self hi] at e
          cases e
          rfl
        · exact absurd hj hjs
  | [], _ :: _, d :: ds, _, _, _, h2 => by cases h2
  | [], [], _ :: _, _, _, h1, _ => by cases h1
  | [], _ :: _, [], _, _, h1, _ => by cases h1
  | i :: is, [], [], _, _, _, h2 => by cases h2
  | i :: is, v :: vs, [], _, _, h1, _ => by cases h1
  | i :: is, [], d :: ds, _, _, h1, _ => by cases h1
theorem VI.setIm (h : VI P w K O H0 H σ τ) (s : SetIm is σ τ σ' τ') (r : ShRel P w K H σ' τ') : VI P w K O H0 H σ' τ' := by
  refine ⟨by rw [s.l1, s.l2]; exact h.len, h.same, r, fun i j u u' v hij e1 e2 m1 m2 f1 f2 => ?_, fun i u a hi e m f => ?_⟩
  · have ni : i ∉ is := fun z => by rw [s.im i z u e1] at m1; cases m1
    have nj : j ∉ is := fun z => by rw [s.im j z u' e2] at m2; cases m2
    rw [(s.out i ni).2] at e1
    rw [(s.out j nj).2] at e2
    rw [(s.out i ni).1] at f1
    rw [(s.out j nj).1] at f2
    exact h.noal i j u u' v hij e1 e2 m1 m2 f1 f2
  · have ni : i ∉ is := fun z => by rw [s.im i z u e] at m; cases m
    rw [(s.out i ni).2] at e
    rw [(s.out i ni).1] at f
    exact h.own i u a hi e m f
end

def gV (X : Cx) (b : D → Sh → Option Sh) (is : List Nat) : TG := fun v σ H Q => ∃ τ d τ', ShRel X.prog X.w X.K H σ τ ∧ IV X.K H v d ∧ b d τ = some τ' ∧ ∀ σ', ShRel X.prog X.w X.K H σ' τ' → SetIm is σ τ σ' τ' → Q σ' H
def GV (X : Cx) (tg : Expr) (b : D → Sh → Option Sh) (is : List Nat) : Prop := PG X tg (gV X b is)
def bName (i : Nat) : D → Sh → Option Sh := fun d τ => some (τ.set i (some (.im d)))
def bTup (is : List Nat) : D → Sh → Option Sh := fun d τ => match d with
  | .tup ds => if ds.length = is.length then some (setAllU is (ds.map .im) τ) else none
  | _ => none
section
variable {X : Cx} {O : List Nat} {pos p : Pos}
theorem pg_w {tg : Expr} {t t' : TG} (h : PG X tg t) (k : ∀ v σ H Q, t' v σ H Q → t v σ H Q) : PG X tg t' := ⟨fun pins s σ H v u Q I r q => h.run pins s σ H v u Q I r (k v σ H Q q)⟩
theorem gv_name (i : Nat) {x : Str} (hN : X.N.Nodup) (hi : X.N[i]? = some x) (hx : Loc X.env.scope x) (hf : X.fn x = true ∨ X.env.scope.names.lookup x = some .local := by first | exact .inl rfl | exact .inr rfl | assumption) : GV X (.Name x pos) (bName i) [i] :=
  pg_w (pg_name hN hi hx hf) fun v σ H Q ⟨τ, d, τ', hr, iv, hb, q⟩ => by
    cases hb
    have z := setAll_im (is := [i]) (vs := [v]) (ds := [d]) (σ := σ) (τ := τ) rfl rfl
    exact q _ (hr.set (u := .im d) iv) z
theorem gv_tup {ts : List Expr} {is : List Nat} {k : Nat} (hc : X.calm = true) (h : Tgs X ts is) (hn : (assignEach ts X.env).length = is.length := by rfl) (hst : (assignEach ts X.env).findIdx? (·.1) = none := by rfl) : GV X (.Tuple ts k pos) (bTup is) is := by
  obtain ⟨t, h1, h2⟩ := h.ex
  refine pg_w (pg_tup hc h1 hn hst) fun v σ H Q ⟨τ, d, τ', hr, iv, hb, q⟩ => ?_
  unfold bTup at hb
  split at hb
  · rename_i ds
    split at hb
    · rename_i hd
      cases hb
      obtain ⟨a, xs, rfl, ht, hx⟩ := iv.of_tup
      have hv := hx.length
      exact ⟨a, xs, rfl, ht, hv.trans hd, h2 xs σ H _ (hv.trans hd) (q _ (setAll_rel hr hx) (setAll_im hv hd))⟩
    · cases hb
  · cases hb

/-! ### for -/
def loopV (b : D → Sh → Option Sh) (g : Sh → Option Res) : List D → Sh → Option Res
  | [], τ => some (.nx τ)
  | d :: ds, τ => (b d τ).bind fun τ1 => (g τ1).bind fun r => match r with
    | .nx τ' => loopV b g ds τ'
    | .rt u => some (.rt u)
def fFor (fi : Sh → Option (List D)) (b : D → Sh → Option Sh) (g : Sh → Option Res) : Sh → Option Res := fun τ => (fi τ).bind fun ds => loopV b g ds τ
open Classical in
/-- the heap without the slots' own objects -/
noncomputable def minus (O : List Nat) (H : Hp) (σ : St) (τ : Sh) : Hp := fun a => if (∃ i u, i ∈ O ∧ τ[i]? = some (some u) ∧ mutU u = true ∧ σ[i]? = some (some (.ref a))) then none else H a
theorem minus_sub {H : Hp} {σ : St} {τ : Sh} : Same (minus O H σ τ) H := fun a o h => by
  unfold minus at h
  split at h
  · cases h
  · exact h
theorem minus_not {H : Hp} {σ : St} {τ : Sh} {a : Addr} (h : ¬ ∃ i u, i ∈ O ∧ τ[i]? = some (some u) ∧ mutU u = true ∧ σ[i]? = some (some (.ref a))) : minus O H σ τ a = H a := by
  unfold minus
  rw [if_neg h]
theorem VI.rebase {P : Program} {w : World} {K : PySem.W.Frag} {H0 H : Hp} {σ : St} {τ : Sh} (h : VI P w K O H0 H σ τ) : VI P w K O (minus O H σ τ) H σ τ := by
  refine ⟨h.len, minus_sub, h.rel, h.noal, fun i u a hi e m f => ?_⟩
  unfold minus
  rw [if_pos ⟨i, u, hi, e, m, f⟩]
theorem VI.debase {P : Program} {w : World} {K : PySem.W.Frag} {H0 H H' : Hp} {σ σ' : St} {τ τ' : Sh} (h : VI P w K O H0 H σ τ) : Same H0 (minus O H σ τ) := fun a o e => by
  rw [minus_not]
  · exact h.same a o e
  · rintro ⟨i, u, hi, e1, m, f⟩
    rw [h.own i u a hi e1 m f] at e
    cases e
theorem VI.lower {P : Program} {w : World} {K : PySem.W.Frag} {H0 H1 H : Hp} {σ : St} {τ : Sh} (h : VI P w K O H1 H σ τ) (s : Same H0 H1) : VI P w K O H0 H σ τ :=
  ⟨h.len, s.trans h.same, h.rel, h.noal, fun i u a hi e m f => s.free (h.own i u a hi e m f)⟩
theorem VI.tk {P : Program} {w : World} {K : PySem.W.Frag} {H0 H H' : Hp} {σ : St} {τ : Sh} (h : VI P w K O H0 H σ τ) (s : Same (minus O H σ τ) H') : TKeep K H H' := fun b xs t => by
  have nm : ∀ o, H b = some o → NoTup (some o) = False → minus O H σ τ b = H b := fun o ho hn => minus_not fun ⟨i, u, hi, e, m, f⟩ => by
    obtain ⟨v, h1, h2⟩ := h.rel.get i u e
    rw [f] at h1
    cases h1
    obtain ⟨a, o', ea, ha, nt⟩ := h2.at m
    cases ea
    rw [ho] at ha
    cases ha
    rw [hn] at nt
    exact nt
  rcases t with (t | ⟨o, t⟩) | t
  · exact .inl (.inl (s _ _ (by rw [nm _ t rfl]; exact t)))
  · exact .inl (.inr ⟨o, s _ _ (by rw [nm _ t rfl]; exact t)⟩)
  · exact .inr t
theorem sv_for {tg iter : Expr} {body : List Stmt} {fi : Sh → Option (List D)} {al is : List Nat} {b : D → Sh → Option Sh} {g : Sh → Option Res} (hp : PassesOwn (model X.prog X.w) X.A X.env X.xe) (hc : X.calm = true) (hi : IVt X tg iter fi al) (hg : GV X tg b is) (hb : SVs X O body g)
    (hal : ∀ j ∈ al, j ∉ O) (hs : ∀ x, foldedSetIterable iter X.env x = pure x := by intro _; rfl) : SV X O (.For tg iter body [] pos) (fFor fi b g) :=
  ps_w (ps_for hp hc hi hg hb hs) fun D σ H ⟨H0, τ, r, v, hgr, p⟩ => by
    obtain ⟨ds, e1, e2⟩ := bind_some hgr
    refine ⟨τ, ds, v.rel, e1, fun J H1 na s1 hna hJ => ?_⟩
    have v1 := v.sames s1
    have w1 := v1.rebase
    have sd : Same H0 (minus O H1 σ τ) := v1.debase (H' := H1) (σ' := σ) (τ' := τ)
    have naK : ∀ a ∈ na, ∃ o, minus O H1 σ τ a = some o ∧ H1 a = some o := fun a ha => by
      obtain ⟨⟨o, ho⟩, h2⟩ := hna a ha
      refine ⟨o, ?_, ho⟩
      rw [minus_not]
      · exact ho
      · rintro ⟨i, u, hiO, ei, m, f⟩
        rcases h2 with h2 | ⟨j, hj, u', ej, m', f'⟩
        · obtain ⟨v', g1, g2⟩ := v.rel.get i u ei
          rw [f] at g1
          cases g1
          obtain ⟨a', o', ea, ha', _⟩ := g2.at m
          cases ea
          rw [h2] at ha'
          cases ha'
        · have hij : i ≠ j := fun z => hal j hj (z ▸ hiO)
          exact v.noal i j u u' _ hij ei ej m m' f f'
    have its : ∀ H', Same (minus O H1 σ τ) H' → ItS X.K J ds H' := fun H' sH => hJ H' (v1.tk sH) fun a ha => by
      obtain ⟨o, h1, h2⟩ := naK a ha
      rw [sH a o h1, h2]
    refine ⟨fun i m σ' H' => m = ds.length - i ∧ i ≤ ds.length ∧ ∃ τi, VI X.prog X.w X.K O (minus O H1 σ τ) H' σ' τi ∧ loopV b g (ds.drop i) τi = some r, ⟨ds.length, by simp, Nat.zero_le _, τ, w1, by rw [List.drop_zero]; exact e2⟩, ?_⟩
    rintro i m σ' H' ⟨rfl, hil, τi, vi, hl⟩
    have it := its H' vi.same i
    by_cases hlt : i < ds.length
    · refine .inr ?_
      have ed : ds[i]? = some ds[i] := List.getElem?_eq_getElem hlt
      obtain ⟨go, yl⟩ := it.1 _ ed
      rw [List.drop_eq_getElem_cons hlt] at hl
      obtain ⟨τ1, b1, hl1⟩ := bind_some hl
      obtain ⟨r1, b2, hl2⟩ := bind_some hl1
      refine ⟨go, fun σ'' H'' => ∃ τ', VI X.prog X.w X.K O (minus O H1 σ τ) H'' σ'' τ' ∧ loopV b g (ds.drop (i + 1)) τ' = some r, fun σ'' H'' ⟨τ', q1, q2⟩ => ⟨ds.length - (i + 1), by omega, rfl, hlt, τ', q1, q2⟩, fun x H'' y => ?_⟩
      obtain ⟨sy, ivy⟩ := yl x H'' y
      have vi2 := vi.sames sy
      refine ⟨τi, ds[i], τ1, vi2.rel, ivy, b1, fun σ2 hr2 im2 => ?_⟩
      have vi3 := vi2.setIm im2 hr2
      refine ⟨minus O H1 σ τ, τ1, r1, vi3, b2, ?_⟩
      cases r1 with
      | nx τ' => exact fun σ3 H3 v3 => ⟨τ', v3, hl2⟩
      | rt u =>
        have e3 : some (Res.rt u) = some r := hl2
        cases e3
        exact fun v' H3 s3 u3 f3 => p v' H3 (sd.trans s3) u3 fun m => by
          obtain ⟨a, rfl, ha⟩ := f3 m
          exact ⟨a, rfl, sd.free ha⟩
    · have ei : ds.length = i := by omega
      refine .inl ⟨it.2 ei, ?_⟩
      subst ei
      rw [List.drop_length] at hl
      cases hl
      exact p σ' H' (vi.lower sd)

/-! ### while -/
def fWhile (c : Sh → Option Bool) (g : Sh → Option Res) : Nat → Sh → Option Res
  | 0, _ => none
  | n + 1, τ => (c τ).bind fun b => if b = true then (g τ).bind fun r => match r with
      | .nx τ' => fWhile c g n τ'
      | .rt u => some (.rt u)
    else some (.nx τ)
theorem sv_while {c : Expr} {body : List Stmt} {fc : Sh → Option Bool} {g : Sh → Option Res} (n : Nat) (hp : PassesOwn (model X.prog X.w) X.A X.env X.xe) (hc : TV X c fc) (hb : SVs X O body g) : SV X O (.While c body [] pos) (fWhile fc g n) :=
  ps_w (ps_while hp hc hb) fun D σ H ⟨H0, τ, r, v, hgr, p⟩ => by
    refine ⟨fun m σ' H' => ∃ τi, VI X.prog X.w X.K O H0 H' σ' τi ∧ fWhile fc g m τi = some r, ⟨n, τ, v, hgr⟩, ?_⟩
    rintro m σ' H' ⟨τi, vi, hw⟩
    cases m with
    | zero => cases hw
    | succ m =>
      obtain ⟨k, e1, e2⟩ := bind_some hw
      refine ⟨τi, k, vi.rel, e1, fun H1 s1 => ?_⟩
      have v1 := vi.sames s1
      cases k with
      | true =>
        rw [if_pos rfl] at e2
        show if true = true then _ else _
        rw [if_pos rfl]
        obtain ⟨r1, e3, e4⟩ := bind_some e2
        refine ⟨fun σ'' H'' => ∃ τ', VI X.prog X.w X.K O H0 H'' σ'' τ' ∧ fWhile fc g m τ' = some r, fun σ'' H'' q => ⟨m, Nat.lt_succ_self m, q⟩, H0, τi, r1, v1, e3, ?_⟩
        cases r1 with
        | nx τ' => exact fun σ3 H3 v3 => ⟨τ', v3, e4⟩
        | rt u =>
          have e5 : some (Res.rt u) = some r := e4
          cases e5
          exact p
      | false =>
        rw [if_neg Bool.false_ne_true] at e2
        show if false = true then _ else _
        rw [if_neg Bool.false_ne_true]
        cases e2
        exact p σ' H1 v1
end
end VL

set_option Elab.async false
set_option linter.all false
set_option maxRecDepth 100000
set_option maxHeartbeats 400000
/-! VLl: list comprehensions. -/
namespace VL
open PySem L2

def wipeU (τ : Sh) : List Nat → Sh
  | [] => τ
  | v :: vs => (wipeU τ vs).set v none
theorem wipeU_length (τ : Sh) : ∀ vs : List Nat, (wipeU τ vs).length = τ.length
  | [] => rfl
  | v :: vs => by unfold wipeU; rw [List.length_set, wipeU_length τ vs]
theorem wipeU_some {τ : Sh} {i : Nat} {x : U} : ∀ {vs : List Nat}, (wipeU τ vs)[i]? = some (some x) → τ[i]? = some (some x) ∧ i ∉ vs
  | [], h => ⟨h, fun z => by cases z⟩
  | v :: vs, h => by
    unfold wipeU at h
    by_cases hi : v = i
    · subst hi
      rcases Nat.lt_or_ge v (wipeU τ vs).length with q | q
      · rw [List.getElem?_set_self q] at h
        cases h
      · rw [List.getElem?_eq_none (by rw [List.length_set]; exact q)] at h
        cases h
    · rw [List.getElem?_set_ne hi] at h
      obtain ⟨h1, h2⟩ := wipeU_some h
      exact ⟨h1, fun z => (List.mem_cons.mp z).elim (fun e => hi e.symm) h2⟩
theorem wipe_at {σ : St} {i : Nat} : ∀ {vs : List Nat}, i ∈ vs → i < σ.length → (wipe σ vs)[i]? = some none
  | v :: vs, h, hl => by
    unfold wipe
    by_cases hi : v = i
    · subst hi
      exact List.getElem?_set_self (by rw [wipe_length]; exact hl)
    · rw [List.getElem?_set_ne hi]
      exact wipe_at ((List.mem_cons.mp h).resolve_left fun e => hi e.symm) hl
theorem wipe_eq {σ σ2 : St} {vs : List Nat} (hl : σ2.length = σ.length) (h : ∀ j, j ∉ vs → σ2[j]? = σ[j]?) : wipe σ2 vs = wipe σ vs := by
  refine List.ext_getElem? fun j => ?_
  by_cases hj : j ∈ vs
  · rcases Nat.lt_or_ge j σ.length with q | q
    · rw [wipe_at hj q, wipe_at hj (by rw [hl]; exact q)]
    · rw [List.getElem?_eq_none (by rw [wipe_length]; omega), List.getElem?_eq_none (by rw [wipe_length]; omega)]
  · rw [wipe_out hj, wipe_out hj, h j hj]
theorem wipe_wipe (σ : St) (vs : List Nat) : wipe (wipe σ vs) vs = wipe σ vs := wipe_eq (wipe_length σ vs) fun _ hj => wipe_out hj
theorem ShRel.wipe {P : Program} {w : World} {K : PySem.W.Frag} {H : Hp} {σ : St} {τ : Sh} (h : ShRel P w K H σ τ) (vs : List Nat) : ShRel P w K H (L2.wipe σ vs) (wipeU τ vs) := ⟨by rw [wipe_length, wipeU_length]; exact h.len, fun i u e => by
  obtain ⟨h1, h2⟩ := wipeU_some e
  obtain ⟨v, g1, g2⟩ := h.get i u h1
  exact ⟨v, by rw [wipe_out h2]; exact g1, g2⟩⟩
theorem wipe_set {is vs : List Nat} {σ σ2 : St} {τ τ2 : Sh} (s : SetIm is (wipe σ vs) τ σ2 τ2) (hs : ∀ j ∈ is, j ∈ vs) : wipe σ2 vs = wipe σ vs := by
  rw [← wipe_wipe σ vs]
  exact wipe_eq s.l1 fun j hj => (s.out j fun z => hj (hs j z)).1

/-! tests of a clause -/
def TsV (X : Cx) (ifs : List Expr) (f : Sh → Option Bool) : Prop := PTs X ifs (tVT X f)
def fYes : Sh → Option Bool := fun _ => some true
theorem pts_w {X : Cx} {ifs : List Expr} {t t' : TT} (h : PTs X ifs t) (k : ∀ σ H Q, t' σ H Q → t σ H Q) : PTs X ifs t' := ⟨fun pins s σ H Q I q => h.run pins s σ H Q I (k σ H Q q)⟩
theorem tsv_nil {X : Cx} : TsV X [] fYes := pts_w pts_nil fun σ H Q ⟨τ, b, hr, hf, q⟩ => by
  cases hf
  exact q H (Same.refl H)
theorem tsv_one {X : Cx} {c : Expr} {f : Sh → Option Bool} (h : TV X c f) : TsV X [c] f := pts_one h

def lcGo (b : D → Sh → Option Sh) (ft : Sh → Option Bool) (fe : Sh → Option U) (τ : Sh) : List D → Option (List D)
  | [] => some []
  | d :: ds => (b d τ).bind fun τ1 => (ft τ1).bind fun c => if c = true then (fe τ1).bind fun u => match u with
      | .im x => (lcGo b ft fe τ ds).map (x :: ·)
      | _ => none
    else lcGo b ft fe τ ds
def fLc (fi : Sh → Option (List D)) (b : D → Sh → Option Sh) (ft : Sh → Option Bool) (fe : Sh → Option U) (vs : List Nat) : Sh → Option U := fun τ => (fi τ).bind fun ds => if ds.length < sizeLine then (lcGo b ft fe (wipeU τ vs) ds).map .ls else none
theorem lcGo_length {b : D → Sh → Option Sh} {ft : Sh → Option Bool} {fe : Sh → Option U} {τ : Sh} : ∀ {ds es : List D}, lcGo b ft fe τ ds = some es → es.length ≤ ds.length
  | [], es, h => by cases h; exact Nat.le_refl _
  | d :: ds, es, h => by
    obtain ⟨τ1, _, h1⟩ := bind_some h
    obtain ⟨c, _, h2⟩ := bind_some h1
    split at h2
    · obtain ⟨u, _, h3⟩ := bind_some h2
      split at h3
      · obtain ⟨es', h4, rfl⟩ := Option.map_eq_some_iff.mp h3
        have := lcGo_length h4
        rw [List.length_cons, List.length_cons]
        omega
      · cases h3
    · have := lcGo_length h2
      rw [List.length_cons]
      omega
section
variable {X : Cx} {O : List Nat}
theorem lc_w {fi : Sh → Option (List D)} {al is : List Nat} {b : D → Sh → Option Sh} {ft : Sh → Option Bool} {fe : Sh → Option U} {ale vs : List Nat} (his : ∀ j ∈ is, j ∈ vs) {σ : St} {H : Hp} {Q : VK} (h : tV X (fLc fi b ft fe vs) [] σ H Q) :
    tLc (iV X fi al) (gV X b is) (tVT X ft) (tV X fe ale) vs σ H Q := by
  obtain ⟨τ, u, hr, hf, q⟩ := h
  obtain ⟨ds, e1, e2⟩ := bind_some hf
  split at e2
  · rename_i hsz
    obtain ⟨tot, e3, rfl⟩ := Option.map_eq_some_iff.mp e2
    refine ⟨τ, ds, hr, e1, fun J H1 na s1 hna hJ => ?_⟩
    intro Dd nD
    have its : ∀ H', Same H1 H' → ItS X.K J ds H' := fun H' sH => hJ H' (Same.tk sH) fun a ha => by
      obtain ⟨⟨o, ho⟩, _⟩ := hna a ha
      rw [sH a o ho, ho]
    have sD : ∀ {H' : Hp} {o : HO}, Same H1 H' → Same H1 (upd H' Dd o) := fun {H' o} sH b x hx => by
      rw [upd_ne (ne_of_none hx nD)]
      exact sH b x hx
    refine ⟨fun i m H' => m = ds.length - i ∧ i ≤ ds.length ∧ Same H1 H' ∧ ∃ acc ys zs, H' Dd = some (.lst acc) ∧ IVs X.K H' acc ys ∧ ys.length ≤ i ∧ lcGo b ft fe (wipeU τ vs) (ds.drop i) = some zs ∧ tot = ys ++ zs,
      ⟨ds.length, by simp, Nat.zero_le _, sD (Same.refl _), [], [], tot, upd_same, .nil, Nat.le_refl _, by rw [List.drop_zero]; exact e3, rfl⟩, ?_⟩
    rintro i m H' ⟨rfl, hil, sH, acc, ys, zs, hD, hacc, hlen, hgo, rfl⟩
    have it := its H' sH i
    by_cases hlt : i < ds.length
    · refine .inr ?_
      have ed : ds[i]? = some ds[i] := List.getElem?_eq_getElem hlt
      obtain ⟨go, yl⟩ := it.1 _ ed
      rw [List.drop_eq_getElem_cons hlt] at hgo
      obtain ⟨τ1, b1, g1⟩ := bind_some hgo
      obtain ⟨c, b2, g2⟩ := bind_some g1
      refine ⟨go, fun H'' => Same H1 H'' ∧ ∃ acc ys' zs', H'' Dd = some (.lst acc) ∧ IVs X.K H'' acc ys' ∧ ys'.length ≤ i + 1 ∧ lcGo b ft fe (wipeU τ vs) (ds.drop (i + 1)) = some zs' ∧ ys ++ zs = ys' ++ zs', fun H'' z => ⟨ds.length - (i + 1), by omega, rfl, hlt, z⟩, fun x H'' y => ?_⟩
      obtain ⟨sy, ivy⟩ := yl x H'' y
      refine ⟨wipeU τ vs, ds[i], τ1, (hr.same ((s1.trans sH).trans sy)).wipe vs, ivy, b1, fun σ2 hr2 im2 => ⟨wipe_set im2 his, τ1, c, hr2, b2, fun H3 s3 => ?_⟩⟩
      have s13 : Same H1 H3 := (sH.trans sy).trans s3
      have hD3 : H3 Dd = some (.lst acc) := (sy.trans s3) _ _ hD
      have ha3 : IVs X.K H3 acc ys := hacc.keep (Same.tk (sy.trans s3))
      cases c with
      | true =>
        rw [if_pos rfl] at g2
        show if true = true then _ else _
        rw [if_pos rfl]
        obtain ⟨u1, g3, g4⟩ := bind_some g2
        split at g4
        · rename_i x1
          obtain ⟨zs', g5, rfl⟩ := Option.map_eq_some_iff.mp g4
          refine ⟨τ1, _, hr2.same s3, g3, fun y1 H4 s4 uy _ => ⟨acc, s4 _ _ hD3, ?_, sD (s13.trans s4), acc ++ [y1], ys ++ [x1], zs', upd_same, ?_, by rw [List.length_append]; exact Nat.succ_le_succ hlen, g5, by rw [List.append_assoc]; rfl⟩⟩
          · have h1 := hacc.length
            omega
          · have nt : NoTup (H4 Dd) := by rw [s4 _ _ hD3]; trivial
            exact ((ha3.keep (Same.tk s4)).append (.cons uy .nil)).keep (TKeep.upd nt)
        · cases g4
      | false =>
        rw [if_neg Bool.false_ne_true] at g2
        show if false = true then _ else _
        rw [if_neg Bool.false_ne_true]
        exact ⟨s13, acc, ys, zs, hD3, ha3, Nat.le_succ_of_le hlen, g2, rfl⟩
    · have ei : ds.length = i := by omega
      refine .inl ⟨it.2 ei, ?_⟩
      subst ei
      rw [List.drop_length] at hgo
      cases hgo
      rw [List.append_nil] at q
      exact q _ _ (s1.trans sH) ⟨Dd, acc, rfl, hD, hacc⟩ fun _ => .inl ⟨Dd, rfl, s1.free nD⟩
  · cases e2
theorem ev_lc {elt tg iter : Expr} {ifs : List Expr} {scope : Scope} {own : List (Str × Nat)} {pos : Pos} {fi : Sh → Option (List D)} {al is : List Nat} {b : D → Sh → Option Sh} {ft : Sh → Option Bool} {fe : Sh → Option U} {ale : List Nat} (hc : X.calm = true) (hN : X.N.Nodup) (hi : IVt X tg iter fi al) (ok : BlkOk X.N X.env.scope scope own)
    (hg : ∀ (s : Shared) (H : Hp) (C : Addr) (cl : List (Str × Addr)) (fp : List Addr), GV (X.blk s H scope (compEnvC scope cl C X.env) fp) tg b is) (ht : ∀ (s : Shared) (H : Hp) (C : Addr) (cl : List (Str × Addr)) (fp : List Addr), TsV (X.blk s H scope (compEnvC scope cl C X.env) fp) ifs ft)
    (he : ∀ (s : Shared) (H : Hp) (C : Addr) (cl : List (Str × Addr)) (fp : List Addr), EV (X.blk s H scope (compEnvC scope cl C X.env) fp) elt fe ale) (his : ∀ j ∈ is, j ∈ own.map (·.2)) (hs : ∀ x, foldedSetIterable iter X.env x = pure x := by intro _; rfl) :
    EV X (.ListComp elt [⟨tg, iter, ifs, 0⟩] scope pos) (fLc fi b ft fe (own.map (·.2))) [] :=
  pe_w (pe_lc (g := gV X b is) (tt := tVT X ft) (te := tV X fe ale) hc hN hi ok hg ht he hs) fun σ H Q h => lc_w his h
theorem sv_setLc {i : Nat} {y : Str} {py : Pos} {elt tg iter : Expr} {ifs : List Expr} {scope : Scope} {own : List (Str × Nat)} {pos spos : Pos} {fi : Sh → Option (List D)} {al is : List Nat} {b : D → Sh → Option Sh} {ft : Sh → Option Bool} {fe : Sh → Option U} {ale : List Nat} (hc : X.calm = true) (hN : X.N.Nodup) (hy : X.N[i]? = some y)
    (hyl : X.env.scope.names.lookup y = some .local) (hsw : swapsWith (.ListComp elt [⟨tg, iter, ifs, 0⟩] scope pos) (some (.Name y py)) spos.line X.env = pure true) (hi : IVt X tg iter fi al) (ok : BlkOk X.N X.env.scope scope own)
    (hg : ∀ (s : Shared) (H : Hp) (C : Addr) (cl : List (Str × Addr)) (fp : List Addr), GV (X.blk s H scope (compEnvC scope cl C X.env) fp) tg b is) (ht : ∀ (s : Shared) (H : Hp) (C : Addr) (cl : List (Str × Addr)) (fp : List Addr), TsV (X.blk s H scope (compEnvC scope cl C X.env) fp) ifs ft)
    (he : ∀ (s : Shared) (H : Hp) (C : Addr) (cl : List (Str × Addr)) (fp : List Addr), EV (X.blk s H scope (compEnvC scope cl C X.env) fp) elt fe ale) (his : ∀ j ∈ is, j ∈ own.map (·.2)) (hs : ∀ x, foldedSetIterable iter X.env x = pure x := by intro _; rfl) :
    SV X O (.Assign [.Name y py] (.ListComp elt [⟨tg, iter, ifs, 0⟩] scope pos) spos) (fSet i [] (fLc fi b ft fe (own.map (·.2)))) :=
  ps_w (ps_setLc (g := gV X b is) (tt := tVT X ft) (te := tV X fe ale) hc hN hy hyl hsw hi ok hg ht he hs) fun D σ H ⟨H0, τ, r, v, hgr, p⟩ => by
    obtain ⟨u, e1, e2⟩ := bind_some hgr
    split at e2
    · rename_i ok
      cases e2
      exact lc_w his ⟨τ, u, v.rel, e1, fun y H' s uy fy => p _ _ (v.set s uy fy ok)⟩
    · cases e2
end
end VL

set_option Elab.async false
set_option linter.all false
set_option maxRecDepth 100000
set_option maxHeartbeats 400000
/-! VLm: dict comprehensions; list comprehensions of two clauses. -/
namespace VL
open PySem L2

/-- what a dict comprehension's reading asks: the new dict at D -/
def tDcV (X : Cx) (wi : TI) (g : TG) (tt : TT) (tk tv : TE) (vs : List Nat) : TE := fun σ H Q => wi σ H fun J H1 => ∀ (D : Addr) (o : Obj), H1 D = none → DcAt X.prog X.w X.K (upd H1 D (obO D o)) D [] → ∃ W : Nat → Nat → Hp → Prop, (∃ m, W 0 m (upd H1 D (obO D o))) ∧ ∀ i m H, W i m H →
  (J.stop i H ∧ Q (.ref D) H) ∨ (J.go i H ∧ ∃ Nx : Hp → Prop, (∀ H', Nx H' → ∃ m', m' < m ∧ W (i + 1) m' H') ∧ ∀ x H', J.yld i H x H' → g x (wipe σ vs) H' fun σ2 H2 => wipe σ2 vs = wipe σ vs ∧ tt σ2 H2 fun b H3 =>
    if b = true then tk σ2 H3 fun y H4 => tv σ2 H4 fun z H5 => ∃ kvs k kb q, y = .ref kb ∧ DcAt X.prog X.w X.K H5 D kvs ∧ kvs.length < sizeLine ∧ IV X.K H5 (.ref kb) k ∧ WV X.K H5 z q ∧ ∀ o', DcAt X.prog X.w X.K (upd H5 D (obO D o')) D (stoD kvs k q) → Nx (upd H5 D (obO D o')) else Nx H3)
section
variable {X : Cx} {O : List Nat}
theorem dcv_core {pins : List (Addr × Obj)} {s : Shared} {σ : St} {H : Hp} {Q : VK} {kx vx tg iter : Expr} {ifs : List Expr} {scope : Scope} {own : List (Str × Nat)} {pos pos' : Pos} {wi : TI} {g : TG} {tt : TT} {tk tv : TE} {use : Option (Value → Sem Unit)} {Qf : Value → Shared → Prop}
    (hu : X.A.units + 64 < cLine) (hc : X.calm = true) (hN : X.N.Nodup) (I : Inv X pins σ H s) (hi : PI X tg iter wi) (ok : BlkOk X.N X.env.scope scope own)
    (hg : ∀ (s : Shared) (H : Hp) (C : Addr) (cl : List (Str × Addr)) (fp : List Addr), PG (X.blk s H scope (compEnvC scope cl C X.env) fp) tg g)
    (ht : ∀ (s : Shared) (H : Hp) (C : Addr) (cl : List (Str × Addr)) (fp : List Addr), PTs (X.blk s H scope (compEnvC scope cl C X.env) fp) ifs tt)
    (hk : ∀ (s : Shared) (H : Hp) (C : Addr) (cl : List (Str × Addr)) (fp : List Addr), PE (X.blk s H scope (compEnvC scope cl C X.env) fp) kx tk)
    (hv : ∀ (s : Shared) (H : Hp) (C : Addr) (cl : List (Str × Addr)) (fp : List Addr), PE (X.blk s H scope (compEnvC scope cl C X.env) fp) vx tv)
    (hs : ∀ x, foldedSetIterable iter X.env x = pure x) (h : tDcV X wi g tt tk tv (own.map (·.2)) σ H Q)
    (hEnd : ∀ D C s' m H', Inv X pins σ H' s' → Q (.ref D) H' → s'.heap.Ns C m → FpOk X pins H' C → compPost (model X.prog X.w) X.A X.xe use Qf (.ref D) C (.ok .next) s') :
    wpAny (model X.prog X.w) X.A (comprehension (.DictComp kx vx [⟨tg, iter, ifs, 0⟩] scope pos) scope X.env pos' newDict false (eval iter X.env) use) Qf X.xe s := by
  have caught : ∀ y ∈ scope.names, y.2 = .free → ∃ c, X.env.cells.lookup y.1 = some c := fun y hy e =>
    (ok.free y hy e).elim (fun k => I.ok.has _ (.inl k)) fun k => I.ok.has _ (.inr k)
  refine wpAny_comprehension_free (use := use) rfl hs (closure_ok caught) ok.kind (fun y hy e => (ok.uniq y hy).trans (congrArg some e)) (thn (hi.run pins s σ H _ I h) fun xv s1 hx => thn hx fun itv s2 z2 => ?_)
  obtain ⟨it, fp, tn, J, H2, rfl, I2, T, st2, f2, q⟩ := z2
  refine wpAny_newObj_type (newEnv_comp ?_)
  obtain ⟨o, I3, d0⟩ := dc_empty I2
  have hn2 : H2 s2.heap.objs.size = none := I2.hok.fresh (Nat.le_refl _)
  obtain ⟨W, ⟨m0, w0⟩, turn⟩ := q s2.heap.objs.size o hn2 d0
  -- the state with the new dict, its place, its heap
  generalize hs3 : ({ s2 with heap := s2.heap.push { cls := .type "dict", data := .dict #[] } } : Shared) = s3 at I3 ⊢
  have e3 : s3.heap = s2.heap.push { cls := .type "dict", data := .dict #[] } := by rw [← hs3]
  generalize hDa : s2.heap.objs.size = Da at I3 d0 w0 turn hn2 ⊢
  generalize hH3 : upd H2 Da (obO Da o) = H3 at I3 d0 w0 turn
  have old : ∀ b ∈ fp, b < Da := fun b hb => by
    obtain ⟨ob, e, _⟩ := T.obj _ _ st2 b hb
    rw [← hDa]
    exact Heap.lt_size e
  have f3 : ∀ b ∈ fp, FpOk X pins H3 b ∧ b < s3.heap.objs.size := fun b hb => by
    have hlt := old b hb
    refine ⟨⟨?_, (f2 b hb).2⟩, by rw [e3, Heap.size_push, hDa]; exact Nat.lt_succ_of_lt hlt⟩
    rw [← hH3, upd_ne (Nat.ne_of_lt hlt)]
    exact (f2 b hb).1
  have st3 : tn 0 s3.heap := T.keep _ _ _ st2 fun b _ ob e => by rw [e3]; exact Heap.get?_push_of_some _ e
  have I4 := block_start I3 ok hN f3
  have jg := hg s3 H3 s3.heap.objs.size (cellsFrom (s3.heap.objs.size + 1) scope.names (cloFrom X.env.cells scope.names [])) fp
  have jt := ht s3 H3 s3.heap.objs.size (cellsFrom (s3.heap.objs.size + 1) scope.names (cloFrom X.env.cells scope.names [])) fp
  have jk := hk s3 H3 s3.heap.objs.size (cellsFrom (s3.heap.objs.size + 1) scope.names (cloFrom X.env.cells scope.names [])) fp
  have jv := hv s3 H3 s3.heap.objs.size (cellsFrom (s3.heap.objs.size + 1) scope.names (cloFrom X.env.cells scope.names [])) fp
  show codeAny _ _ (.compStart (.DictComp kx vx [⟨tg, iter, ifs, 0⟩] scope pos) 0 (.ref it) (.ref Da) (compEnvC scope (cellsFrom (s3.heap.objs.size + 1) scope.names (cloFrom X.env.cells scope.names [])) s3.heap.objs.size X.env)) (compPost (model X.prog X.w) X.A X.xe use Qf (.ref Da) s3.heap.objs.size) { s3 with heap := pushCells (s3.heap.push { cls := .type "dict", data := .dict #[] }) scope.names }
  have none3 : ∀ b ∈ fp, H3 b = none := fun b hb => (f3 b hb).1.1
  generalize hce : compEnvC scope (cellsFrom (s3.heap.objs.size + 1) scope.names (cloFrom X.env.cells scope.names [])) s3.heap.objs.size X.env = ce at I4 jg jt jk jv ⊢
  have eL : ce.locals = s3.heap.objs.size := by subst hce; rfl
  generalize hs4 : ({ s3 with heap := pushCells (s3.heap.push { cls := .type "dict", data := .dict #[] }) scope.names } : Shared) = s4 at I4 ⊢
  have st4 : tn 0 s4.heap := T.keep _ _ _ st3 fun b _ ob e => by rw [← hs4]; exact pushCells_keeps _ _ _ _ (Heap.get?_push_of_some _ e)
  have fine : ∀ {σ' : St} {H' : Hp} {s' : Shared}, Inv (X.blk s3 H3 scope ce fp) [] σ' H' s' → (∀ b ∈ fp, H' b = none) → ∀ b ∈ fp, FpOk (X.blk s3 H3 scope ce fp) [] H' b := fun {σ' H' s'} I' hn b hb =>
    ⟨hn b hb, (I'.ok.exf b hb).1, I'.ok.exfs b hb, .inl hb, fun x c e => (I'.ok.exf b hb).2 x c e, fun p hp => nomatch hp⟩
  have loop : codeAny (model X.prog X.w) X.A (.compLoop (.DictComp kx vx [⟨tg, iter, ifs, 0⟩] scope pos) 0 (.ref it) (.ref Da) ce) (compPost (model X.prog X.w) X.A X.xe use Qf (.ref Da) s3.heap.objs.size) s4 := by
    refine compLoop_anyD (fun n s' => ∃ i H', Inv (X.blk s3 H3 scope ce fp) [] (wipe σ (own.map (·.2))) H' s' ∧ tn i s'.heap ∧ (∀ b ∈ fp, H' b = none) ∧ W i n H') ?_ m0 ⟨0, H3, I4, st4, none3, w0⟩
    rintro n s5 ⟨i, H5, I5, st5, n5, w5⟩
    rcases turn i n H5 w5 with ⟨stop, qq⟩ | ⟨go, Nx, hNx, step⟩
    · refine thnF (T.done (X.blk s3 H3 scope ce fp) rfl rfl rfl hc i [] s5 _ H5 (fun _ _ => False) I5 (fine I5 n5) st5 stop) fun r s6 ⟨hr, I6⟩ => ?_
      subst hr
      have back : Inv X pins σ H5 s6 := I3.call' (ch := fp) I6.os I6.base I6.hok I6.bare fun b hb => let z := (f3 b hb).1; ⟨z.2.2.2.1, z.2.1, z.2.2.2.2.1, z.2.2.2.2.2⟩
      obtain ⟨m, hn, _⟩ := I6.loc
      have hfree : H5 ce.locals = none := I6.free
      have hn : s6.heap.Ns ce.locals m := hn
      rw [eL] at hn hfree
      exact hEnd Da s3.heap.objs.size s6 m H5 back qq hn (I3.fpOk (Nat.le_refl _) hfree)
    · refine thnF (T.item (X.blk s3 H3 scope ce fp) rfl rfl rfl hc i [] s5 _ H5 (fun _ _ => False) I5 (fine I5 n5) st5 go) fun r s6 ⟨u, hr, h6⟩ => ?_
      subst hr
      refine thnF h6 fun _ s7 ⟨x, H7, I7, r7, y7, st7, n7⟩ => ?_
      refine thnF (jg.run _ s7 _ H7 x u _ (I7.pinned (fine I7 n7) (T.obj _ _ st7)) r7 (step x H7 y7)) fun _ s8 ⟨σ8, H8, I8, hw8, q8⟩ => ?_
      refine thnF (jt.run _ s8 σ8 H8 _ I8 q8) fun b s9 ⟨H9, I9, q9⟩ => ?_
      have again : ∀ {s' : Shared} {H' : Hp}, Inv (X.blk s3 H3 scope ce fp) ([] ++ pinsAt fp s7.heap) σ8 H' s' → Nx H' → ∃ m, m < n ∧ ∃ i H', Inv (X.blk s3 H3 scope ce fp) [] (wipe σ (own.map (·.2))) H' s' ∧ tn i s'.heap ∧ (∀ b ∈ fp, H' b = none) ∧ W i m H' := fun {s' H'} I' nx => by
        obtain ⟨m', hm, w'⟩ := hNx H' nx
        have held : ∀ b ∈ fp, ∀ ob, s7.heap.get? b = some ob → s'.heap.get? b = some ob ∧ H' b = none := fun b hb ob e =>
          let z := I'.pin (b, ob) (List.mem_append_right _ (List.mem_append_right _ (mem_pinsAt hb e)))
          ⟨z.1, z.2.1⟩
        refine ⟨m', hm, i + 1, H', (I'.unpinned (pins := [])).weak ?_ (fun j v e => ?_), T.keep _ _ _ st7 fun b hb ob e => (held b hb ob e).1, fun b hb => ?_, w'⟩
        · rw [← hw8, wipe_length]
        · rw [← hw8] at e
          exact (wipe_some e).1
        · obtain ⟨ob, e, _⟩ := T.obj _ _ st7 b hb
          exact (held b hb ob e).2
      cases b with
      | false =>
        rw [if_neg Bool.false_ne_true] at q9 ⊢
        exact again I9 q9
      | true =>
        rw [if_pos rfl] at q9 ⊢
        refine thnF (jk.run _ s9 σ8 H9 _ I9 q9) fun z s10 ⟨yk, H10, I10, r10, q10⟩ => ?_
        refine thnF (jv.run _ s10 σ8 H10 _ I10 q10) fun z2 s11 ⟨yv, H11, I11, r11, kvs, k, kb, qw, ek, hD11, hz11, ik, iw, nx⟩ => ?_
        subst ek
        cases r10
        exact dc_putC (X := X.blk s3 H3 scope ce fp) hu I11 hD11 hz11 ik r11 iw fun o' s12 I12 d12 => again I12 (nx o' d12)
  exact codeAny_compStart_dict loop (T.self X.A 0 _ _ _ st4 loop)

def dcGo (b : D → Sh → Option Sh) (ft : Sh → Option Bool) (fk fe : Sh → Option U) (τ : Sh) : List D → List (D × W) → Option (List (D × W))
  | [], acc => some acc
  | d :: ds, acc => (b d τ).bind fun τ1 => (ft τ1).bind fun c => if c = true then (fk τ1).bind fun k => (fe τ1).bind fun u => (wOf u).bind fun q => match k with
      | .im (.tup ks) => dcGo b ft fk fe τ ds (stoD acc (.tup ks) q)
      | _ => none
    else dcGo b ft fk fe τ ds acc
def fDc (fi : Sh → Option (List D)) (b : D → Sh → Option Sh) (ft : Sh → Option Bool) (fk fe : Sh → Option U) (vs : List Nat) : Sh → Option U := fun τ => (fi τ).bind fun ds => if ds.length < sizeLine then (dcGo b ft fk fe (wipeU τ vs) ds []).map .dc else none
theorem dc_w {fi : Sh → Option (List D)} {al is : List Nat} {b : D → Sh → Option Sh} {ft : Sh → Option Bool} {fk fe : Sh → Option U} {alk ale vs : List Nat} (his : ∀ j ∈ is, j ∈ vs) {σ : St} {H : Hp} {Q : VK} (h : tV X (fDc fi b ft fk fe vs) [] σ H Q) :
    tDcV X (iV X fi al) (gV X b is) (tVT X ft) (tV X fk alk) (tV X fe ale) vs σ H Q := by
  obtain ⟨τ, u, hr, hf, q⟩ := h
  obtain ⟨ds, e1, e2⟩ := bind_some hf
  split at e2
  · rename_i hsz
    obtain ⟨tot, e3, rfl⟩ := Option.map_eq_some_iff.mp e2
    refine ⟨τ, ds, hr, e1, fun J H1 na s1 hna hJ => ?_⟩
    intro Dd o0 nD d0
    have its : ∀ H', Same H1 H' → ItS X.K J ds H' := fun H' sH => hJ H' (Same.tk sH) fun a ha => by
      obtain ⟨⟨o, ho⟩, _⟩ := hna a ha
      rw [sH a o ho, ho]
    have sD : ∀ {H' : Hp} {o : HO}, Same H1 H' → Same H1 (upd H' Dd o) := fun {H' o} sH b x hx => by
      rw [upd_ne (ne_of_none hx nD)]
      exact sH b x hx
    refine ⟨fun i m H' => m = ds.length - i ∧ i ≤ ds.length ∧ Same H1 H' ∧ ∃ acc, DcAt X.prog X.w X.K H' Dd acc ∧ acc.length ≤ i ∧ dcGo b ft fk fe (wipeU τ vs) (ds.drop i) acc = some tot,
      ⟨ds.length, by simp, Nat.zero_le _, sD (Same.refl _), [], d0, Nat.le_refl _, by rw [List.drop_zero]; exact e3⟩, ?_⟩
    rintro i m H' ⟨rfl, hil, sH, acc, hD, hlen, hgo⟩
    have it := its H' sH i
    by_cases hlt : i < ds.length
    · refine .inr ?_
      have ed : ds[i]? = some ds[i] := List.getElem?_eq_getElem hlt
      obtain ⟨go, yl⟩ := it.1 _ ed
      rw [List.drop_eq_getElem_cons hlt] at hgo
      obtain ⟨τ1, b1, g1⟩ := bind_some hgo
      obtain ⟨c, b2, g2⟩ := bind_some g1
      refine ⟨go, fun H'' => Same H1 H'' ∧ ∃ acc', DcAt X.prog X.w X.K H'' Dd acc' ∧ acc'.length ≤ i + 1 ∧ dcGo b ft fk fe (wipeU τ vs) (ds.drop (i + 1)) acc' = some tot, fun H'' z => ⟨ds.length - (i + 1), by omega, rfl, hlt, z⟩, fun x H'' y => ?_⟩
      obtain ⟨sy, ivy⟩ := yl x H'' y
      refine ⟨wipeU τ vs, ds[i], τ1, (hr.same ((s1.trans sH).trans sy)).wipe vs, ivy, b1, fun σ2 hr2 im2 => ⟨wipe_set im2 his, τ1, c, hr2, b2, fun H3 s3 => ?_⟩⟩
      have s13 : Same H1 H3 := (sH.trans sy).trans s3
      have up : ∀ {Ha Hb : Hp}, Same Ha Hb → DcAt X.prog X.w X.K Ha Dd acc → DcAt X.prog X.w X.K Hb Dd acc := fun s d => d.keep (Same.tk s) fun o e => s _ _ e
      have hD3 := up (sy.trans s3) hD
      cases c with
      | true =>
        rw [if_pos rfl] at g2
        show if true = true then _ else _
        rw [if_pos rfl]
        obtain ⟨k1, g3, g4⟩ := bind_some g2
        obtain ⟨u1, g5, g6⟩ := bind_some g4
        obtain ⟨q1, g7, g8⟩ := bind_some g6
        split at g8
        · rename_i ks
          refine ⟨τ1, _, hr2.same s3, g3, fun y1 H4 s4 uy _ => ⟨τ1, u1, (hr2.same s3).same s4, g5, fun z1 H5 s5 uz _ => ?_⟩⟩
          have uy5 : IV X.K H5 y1 (.tup ks) := IV.keep (Same.tk s5) uy
          obtain ⟨kb, _, rfl, _⟩ := uy5.of_tup
          exact ⟨acc, .tup ks, kb, q1, rfl, up s5 (up s4 hD3), by omega, uy5, wOf_wv uz g7, fun o' d' => ⟨sD ((s13.trans s4).trans s5), _, d', Nat.le_trans (sto_length _ _ _) (Nat.succ_le_succ hlen), g8⟩⟩
        · cases g8
      | false =>
        rw [if_neg Bool.false_ne_true] at g2
        show if false = true then _ else _
        rw [if_neg Bool.false_ne_true]
        exact ⟨s13, acc, hD3, Nat.le_succ_of_le hlen, g2⟩
    · have ei : ds.length = i := by omega
      refine .inl ⟨it.2 ei, ?_⟩
      subst ei
      rw [List.drop_length] at hgo
      cases hgo
      exact q _ _ (s1.trans sH) ⟨Dd, rfl, hD⟩ fun _ => .inl ⟨Dd, rfl, s1.free nD⟩
  · cases e2
theorem ev_dc {kx vx tg iter : Expr} {ifs : List Expr} {scope : Scope} {own : List (Str × Nat)} {pos : Pos} {fi : Sh → Option (List D)} {al is : List Nat} {b : D → Sh → Option Sh} {ft : Sh → Option Bool} {fk fe : Sh → Option U} {alk ale : List Nat} (hu : X.A.units + 64 < cLine) (hc : X.calm = true) (hN : X.N.Nodup) (hi : IVt X tg iter fi al) (ok : BlkOk X.N X.env.scope scope own)
    (hg : ∀ (s : Shared) (H : Hp) (C : Addr) (cl : List (Str × Addr)) (fp : List Addr), GV (X.blk s H scope (compEnvC scope cl C X.env) fp) tg b is) (ht : ∀ (s : Shared) (H : Hp) (C : Addr) (cl : List (Str × Addr)) (fp : List Addr), TsV (X.blk s H scope (compEnvC scope cl C X.env) fp) ifs ft)
    (hk : ∀ (s : Shared) (H : Hp) (C : Addr) (cl : List (Str × Addr)) (fp : List Addr), EV (X.blk s H scope (compEnvC scope cl C X.env) fp) kx fk alk) (he : ∀ (s : Shared) (H : Hp) (C : Addr) (cl : List (Str × Addr)) (fp : List Addr), EV (X.blk s H scope (compEnvC scope cl C X.env) fp) vx fe ale)
    (his : ∀ j ∈ is, j ∈ own.map (·.2)) (hs : ∀ x, foldedSetIterable iter X.env x = pure x := by intro _; rfl) : EV X (.DictComp kx vx [⟨tg, iter, ifs, 0⟩] scope pos) (fDc fi b ft fk fe (own.map (·.2))) [] := by
  refine ⟨fun pins s σ H Q I h => ?_⟩
  rw [arm_eval_DictComp]
  refine dcv_core (g := gV X b is) (tt := tVT X ft) (tk := tV X fk alk) (tv := tV X fe ale) hu hc hN I hi ok hg ht hk he hs (dc_w his h) fun Dd C s' m H' I' q hn f => ⟨m, hn, fun h2 sb => ?_⟩
  obtain ⟨a1, a2, _, a4, a5, a6⟩ := f
  exact ⟨.ref Dd, H', I'.turned (t' := s'.toks) (fun b o hb e => (sb.2 b hb).trans e) a1 a2 a4 a5 a6, rfl, q⟩
theorem sv_setDc {i : Nat} {y : Str} {py : Pos} {kx vx tg iter : Expr} {ifs : List Expr} {scope : Scope} {own : List (Str × Nat)} {pos spos : Pos} {fi : Sh → Option (List D)} {al is : List Nat} {b : D → Sh → Option Sh} {ft : Sh → Option Bool} {fk fe : Sh → Option U} {alk ale : List Nat} (hu : X.A.units + 64 < cLine) (hc : X.calm = true) (hN : X.N.Nodup) (hy : X.N[i]? = some y)
    (hyl : X.env.scope.names.lookup y = some .local) (hsw : swapsWith (.DictComp kx vx [⟨tg, iter, ifs, 0⟩] scope pos) (some (.Name y py)) spos.line X.env = pure true) (hi : IVt X tg iter fi al) (ok : BlkOk X.N X.env.scope scope own)
    (hg : ∀ (s : Shared) (H : Hp) (C : Addr) (cl : List (Str × Addr)) (fp : List Addr), GV (X.blk s H scope (compEnvC scope cl C X.env) fp) tg b is) (ht : ∀ (s : Shared) (H : Hp) (C : Addr) (cl : List (Str × Addr)) (fp : List Addr), TsV (X.blk s H scope (compEnvC scope cl C X.env) fp) ifs ft)
    (hk : ∀ (s : Shared) (H : Hp) (C : Addr) (cl : List (Str × Addr)) (fp : List Addr), EV (X.blk s H scope (compEnvC scope cl C X.env) fp) kx fk alk) (he : ∀ (s : Shared) (H : Hp) (C : Addr) (cl : List (Str × Addr)) (fp : List Addr), EV (X.blk s H scope (compEnvC scope cl C X.env) fp) vx fe ale)
    (his : ∀ j ∈ is, j ∈ own.map (·.2)) (hs : ∀ x, foldedSetIterable iter X.env x = pure x := by intro _; rfl) : SV X O (.Assign [.Name y py] (.DictComp kx vx [⟨tg, iter, ifs, 0⟩] scope pos) spos) (fSet i [] (fDc fi b ft fk fe (own.map (·.2)))) := by
  refine ⟨fun pins s σ H E I ⟨H0, τ, r, v, hgr, p⟩ => ?_⟩
  obtain ⟨u, e1, e2⟩ := bind_some hgr
  split at e2
  · rename_i okk
    cases e2
    have h : tV X (fDc fi b ft fk fe (own.map (·.2))) [] σ H (fun x H1 => E.nx (σ.set i (some x)) H1) := ⟨τ, u, v.rel, e1, fun y H' s uy fy => p _ _ (v.set s uy fy okk)⟩
    rw [exec_Assign_Name_used _ _ _ _ hsw]
    refine wpAny_bind (wpAny_standAt (wpAny_bind ?_))
    show wpAny _ X.A (do let _ ← comprehension (.DictComp kx vx [⟨tg, iter, ifs, 0⟩] scope pos) scope X.env (firstIterPos [⟨tg, iter, ifs, 0⟩] pos) newDict false (eval iter X.env) (some (assign (.Name y py) X.env))) _ _ s
    refine wpAny_bind (thn (dcv_core (Qf := fun _ s' => SP X pins E .next s') (g := gV X b is) (tt := tVT X ft) (tk := tV X fk alk) (tv := tV X fe ale) hu hc hN I hi ok hg ht hk he hs (dc_w his h) fun Dd C s' m H' I' q hn f => ?_) fun _ s' hq => wpAny_pure (wpAny_pure hq))
    show wpAny _ _ (assign (.Name y py) X.env (.ref Dd)) _ _ _
    obtain ⟨a1, a2, _, a4, a5, a6⟩ := f
    refine wpAny_assign_Name (store_ok2 (v := V.ref Dd) I' hN hy (.inl hyl) rfl (fun s2 I2 ⟨a, sb, ha⟩ => ⟨m, hn.sameBut sb ?_, fun h3 sb3 => ?_⟩) (.inr hyl))
    · rcases ha with z | z
      · rw [z]; exact a2
      · exact fun e => a5 y a z e.symm
    · exact ⟨_, H', I2.turned (t' := s2.toks) (fun b o hb e => (sb3.2 b hb).trans e) a1 a2 a4 a5 a6, q⟩
  · cases e2

/-! ### two clauses -/
def lc2Go (b : D → Sh → Option Sh) (ft : Sh → Option Bool) (fi1 : Sh → Option (List D)) (b1 : D → Sh → Option Sh) (ft1 : Sh → Option Bool) (fe : Sh → Option U) (vs1 : List Nat) (τ : Sh) : List D → Option (List D)
  | [] => some []
  | d :: ds => (b d τ).bind fun τ1 => (ft τ1).bind fun c => if c = true then (fi1 τ1).bind fun es => (lcGo b1 ft1 fe (wipeU τ1 vs1) es).bind fun ys => (lc2Go b ft fi1 b1 ft1 fe vs1 τ ds).map (ys ++ ·)
    else lc2Go b ft fi1 b1 ft1 fe vs1 τ ds
def fLc2 (fi : Sh → Option (List D)) (b : D → Sh → Option Sh) (ft : Sh → Option Bool) (fi1 : Sh → Option (List D)) (b1 : D → Sh → Option Sh) (ft1 : Sh → Option Bool) (fe : Sh → Option U) (vs vs1 : List Nat) : Sh → Option U := fun τ => (fi τ).bind fun ds =>
  (lc2Go b ft fi1 b1 ft1 fe vs1 (wipeU τ vs) ds).bind fun tot => if tot.length < sizeLine then some (.ls tot) else none
theorem lc2_w {fi fi1 : Sh → Option (List D)} {al is is1 : List Nat} {b b1 : D → Sh → Option Sh} {ft ft1 : Sh → Option Bool} {fe : Sh → Option U} {ale vs vs1 : List Nat} (his : ∀ j ∈ is, j ∈ vs) (his1 : ∀ j ∈ is1, j ∈ vs1) {σ : St} {H : Hp} {Q : VK} (h : tV X (fLc2 fi b ft fi1 b1 ft1 fe vs vs1) [] σ H Q) :
    tLc2 (iV X fi al) (gV X b is) (tVT X ft) (iV X fi1 []) (gV X b1 is1) (tVT X ft1) (tV X fe ale) vs vs1 σ H Q := by
  obtain ⟨τ, u, hr, hf, q⟩ := h
  obtain ⟨ds, e1, e2⟩ := bind_some hf
  obtain ⟨tot, e3, e4⟩ := bind_some e2
  split at e4
  · rename_i hsz
    cases e4
    refine ⟨τ, ds, hr, e1, fun J H1 na s1 hna hJ => ?_⟩
    intro Dd nD
    have its : ∀ H', Same H1 H' → ItS X.K J ds H' := fun H' sH => hJ H' (Same.tk sH) fun a ha => by
      obtain ⟨⟨o, ho⟩, _⟩ := hna a ha
      rw [sH a o ho, ho]
    have sD : ∀ {H' : Hp} {o : HO}, Same H1 H' → Same H1 (upd H' Dd o) := fun {H' o} sH b x hx => by
      rw [upd_ne (ne_of_none hx nD)]
      exact sH b x hx
    refine ⟨fun i m H' => m = ds.length - i ∧ i ≤ ds.length ∧ Same H1 H' ∧ ∃ acc ys zs, H' Dd = some (.lst acc) ∧ IVs X.K H' acc ys ∧ lc2Go b ft fi1 b1 ft1 fe vs1 (wipeU τ vs) (ds.drop i) = some zs ∧ tot = ys ++ zs,
      ⟨ds.length, by simp, Nat.zero_le _, sD (Same.refl _), [], [], tot, upd_same, .nil, by rw [List.drop_zero]; exact e3, rfl⟩, ?_⟩
    rintro i m H' ⟨rfl, hil, sH, acc, ys, zs, hD, hacc, hgo, htot⟩
    have it := its H' sH i
    by_cases hlt : i < ds.length
    · refine .inr ?_
      have ed : ds[i]? = some ds[i] := List.getElem?_eq_getElem hlt
      obtain ⟨go, yl⟩ := it.1 _ ed
      rw [List.drop_eq_getElem_cons hlt] at hgo
      obtain ⟨τ1, b1e, g1⟩ := bind_some hgo
      obtain ⟨c, b2, g2⟩ := bind_some g1
      refine ⟨go, fun H'' => Same H1 H'' ∧ ∃ acc ys' zs', H'' Dd = some (.lst acc) ∧ IVs X.K H'' acc ys' ∧ lc2Go b ft fi1 b1 ft1 fe vs1 (wipeU τ vs) (ds.drop (i + 1)) = some zs' ∧ tot = ys' ++ zs', fun H'' z => ⟨ds.length - (i + 1), by omega, rfl, hlt, z⟩, fun x H'' y => ?_⟩
      obtain ⟨sy, ivy⟩ := yl x H'' y
      refine ⟨wipeU τ vs, ds[i], τ1, (hr.same ((s1.trans sH).trans sy)).wipe vs, ivy, b1e, fun σ2 hr2 im2 => ⟨wipe_set im2 his, τ1, c, hr2, b2, fun H3 s3 => ?_⟩⟩
      have s13 : Same H1 H3 := (sH.trans sy).trans s3
      have hD3 : H3 Dd = some (.lst acc) := (sy.trans s3) _ _ hD
      have ha3 : IVs X.K H3 acc ys := hacc.keep (Same.tk (sy.trans s3))
      cases c with
      | true =>
        rw [if_pos rfl] at g2
        show if true = true then _ else _
        rw [if_pos rfl]
        obtain ⟨es, g3, g4⟩ := bind_some g2
        obtain ⟨ys1, g5, g6⟩ := bind_some g4
        obtain ⟨zs', g7, rfl⟩ := Option.map_eq_some_iff.mp g6
        refine ⟨τ1, es, hr2.same s3, g3, fun J1 H4 na1 s4 hna1 hJ1 => ?_⟩
        have away : ∀ (j : Nat) (u : U) (a : Addr), τ1[j]? = some (some u) → mutU u = true → σ2[j]? = some (some (.ref a)) → a ≠ Dd := fun j u a ej m fj => by
          rintro rfl
          have nj : j ∉ is := fun z => by rw [im2.im j z u ej] at m; cases m
          rw [(im2.out j nj).2] at ej
          rw [(im2.out j nj).1] at fj
          obtain ⟨v', h1, h2⟩ := (hr.wipe vs).get j u ej
          rw [fj] at h1
          cases h1
          obtain ⟨a', o', ea, ha', _⟩ := h2.at m
          cases ea
          rw [s1 _ _ ha'] at nD
          cases nD
        have s14 := s13.trans s4
        have hD4 : H4 Dd = some (.lst acc) := s4 _ _ hD3
        have keepB : ∀ {Ha Hb : Hp}, (∃ l, Ha Dd = some (.lst l)) → (∀ b o, b ≠ Dd → Ha b = some o → Hb b = some o) → TKeep X.K Ha Hb := fun {Ha Hb} ⟨l, hl⟩ k b xs t => by
          rcases t with (t | ⟨o, t⟩) | t
          · exact .inl (.inl (k b _ (by rintro rfl; rw [hl] at t; cases t) t))
          · exact .inl (.inr ⟨o, k b _ (by rintro rfl; rw [hl] at t; cases t) t⟩)
          · exact .inr t
        refine ⟨fun j k H' => k = es.length - j ∧ j ≤ es.length ∧ Same H1 H' ∧ (∀ b o, b ≠ Dd → H4 b = some o → H' b = some o) ∧ ∃ acc yy zz, H' Dd = some (.lst acc) ∧ IVs X.K H' acc yy ∧ lcGo b1 ft1 fe (wipeU τ1 vs1) (es.drop j) = some zz ∧ ys ++ ys1 = yy ++ zz,
          ⟨es.length, by simp, Nat.zero_le _, s14, fun _ _ _ e => e, acc, ys, ys1, hD4, ha3.keep (Same.tk s4), by rw [List.drop_zero]; exact g5, rfl⟩, ?_⟩
        rintro j k H5 ⟨rfl, hjl, s15, k45, acc5, yy, zz, hD5, hacc5, hgo5, htot5⟩
        have it5 := hJ1 H5 (keepB ⟨_, hD4⟩ k45) (fun a ha => by
          obtain ⟨⟨o, ho⟩, h2⟩ := hna1 a ha
          have na : a ≠ Dd := by
            rintro rfl
            rcases h2 with h2 | ⟨j, hj, _⟩
            · rw [hD3] at h2
              cases h2
            · cases hj
          rw [k45 a o na ho, ho]) j
        have hr5 : ShRel X.prog X.w X.K H5 σ2 τ1 := ⟨hr2.len, fun j u e => by
          obtain ⟨v', h1, h2⟩ := ((hr2.same s3).same s4).get j u e
          exact ⟨v', h1, h2.keep (keepB ⟨_, hD4⟩ k45) fun m a ea o ho => k45 a o (away j u a e m (by rw [h1, ea])) ho⟩⟩
        by_cases hlt5 : j < es.length
        · refine .inr ?_
          have ed5 : es[j]? = some es[j] := List.getElem?_eq_getElem hlt5
          obtain ⟨go5, yl5⟩ := it5.1 _ ed5
          rw [List.drop_eq_getElem_cons hlt5] at hgo5
          obtain ⟨τ5, p1, p2⟩ := bind_some hgo5
          obtain ⟨c5, p3, p4⟩ := bind_some p2
          refine ⟨go5, fun H6 => Same H1 H6 ∧ (∀ b o, b ≠ Dd → H4 b = some o → H6 b = some o) ∧ ∃ acc yy zz, H6 Dd = some (.lst acc) ∧ IVs X.K H6 acc yy ∧ lcGo b1 ft1 fe (wipeU τ1 vs1) (es.drop (j + 1)) = some zz ∧ ys ++ ys1 = yy ++ zz, fun H6 z => ⟨es.length - (j + 1), by omega, rfl, hlt5, z⟩, fun x5 H6 y5 => ?_⟩
          obtain ⟨sy5, ivy5⟩ := yl5 x5 H6 y5
          refine ⟨wipeU τ1 vs1, es[j], τ5, (hr5.same sy5).wipe vs1, ivy5, p1, fun σ7 hr7 im7 => ⟨wipe_set im7 his1, τ5, c5, hr7, p3, fun H8 s8 => ?_⟩⟩
          have s58 := sy5.trans s8
          have hD8 : H8 Dd = some (.lst acc5) := s58 _ _ hD5
          have ha8 : IVs X.K H8 acc5 yy := hacc5.keep (Same.tk s58)
          cases c5 with
          | true =>
            rw [if_pos rfl] at p4
            show if true = true then _ else _
            rw [if_pos rfl]
            obtain ⟨u9, p5, p6⟩ := bind_some p4
            split at p6
            · rename_i x9
              obtain ⟨zz', p7, rfl⟩ := Option.map_eq_some_iff.mp p6
              refine ⟨τ5, _, hr7.same s8, p5, fun y9 H9 s9 u9 _ => ⟨acc5, s9 _ _ hD8, ?_, sD ((s15.trans s58).trans s9), fun b o nb e => ?_, acc5 ++ [y9], yy ++ [x9], zz', upd_same, ?_, p7, by rw [htot5, List.append_assoc]; rfl⟩⟩
              · have h1 := hacc5.length
                have h2 : yy.length < tot.length := by
                  rw [htot, ← List.append_assoc, htot5]
                  simp only [List.length_append, List.length_cons]
                  omega
                omega
              · rw [upd_ne nb]
                exact s9 _ _ (s58 _ _ (k45 b o nb e))
              · have nt : NoTup (H9 Dd) := by rw [s9 _ _ hD8]; trivial
                exact ((ha8.keep (Same.tk s9)).append (.cons u9 .nil)).keep (TKeep.upd nt)
            · cases p6
          | false =>
            rw [if_neg Bool.false_ne_true] at p4
            show if false = true then _ else _
            rw [if_neg Bool.false_ne_true]
            exact ⟨s15.trans s58, fun b o nb e => s58 _ _ (k45 b o nb e), acc5, yy, zz, hD8, ha8, p4, htot5⟩
        · have ej : es.length = j := by omega
          refine .inl ⟨it5.2 ej, ?_⟩
          subst ej
          rw [List.drop_length] at hgo5
          cases hgo5
          rw [List.append_nil] at htot5
          exact ⟨s15, acc5, yy, zs', hD5, hacc5, g7, by rw [htot, ← List.append_assoc, htot5]⟩
      | false =>
        rw [if_neg Bool.false_ne_true] at g2
        show if false = true then _ else _
        rw [if_neg Bool.false_ne_true]
        exact ⟨s13, acc, ys, zs, hD3, ha3, g2, htot⟩
    · have ei : ds.length = i := by omega
      refine .inl ⟨it.2 ei, ?_⟩
      subst ei
      rw [List.drop_length] at hgo
      cases hgo
      rw [List.append_nil] at htot
      subst htot
      exact q _ _ (s1.trans sH) ⟨Dd, acc, rfl, hD, hacc⟩ fun _ => .inl ⟨Dd, rfl, s1.free nD⟩
  · cases e4
theorem sv_setLc2 {i : Nat} {y : Str} {py : Pos} {elt tg iter tg1 iter1 : Expr} {ifs ifs1 : List Expr} {scope : Scope} {own : List (Str × Nat)} {vs1 : List Nat} {pos spos : Pos} {fi fi1 : Sh → Option (List D)} {al is is1 : List Nat} {b b1 : D → Sh → Option Sh} {ft ft1 : Sh → Option Bool} {fe : Sh → Option U} {ale : List Nat} (hc : X.calm = true) (hN : X.N.Nodup) (hy : X.N[i]? = some y)
    (hyl : X.env.scope.names.lookup y = some .local) (hsw : swapsWith (.ListComp elt [⟨tg, iter, ifs, 0⟩, ⟨tg1, iter1, ifs1, 0⟩] scope pos) (some (.Name y py)) spos.line X.env = pure true) (hi : IVt X tg iter fi al) (ok : BlkOk X.N X.env.scope scope own) (hv : ∀ i ∈ vs1, i ∈ own.map (·.2))
    (hg : ∀ (s : Shared) (H : Hp) (C : Addr) (cl : List (Str × Addr)) (fp : List Addr), GV (X.blk s H scope (compEnvC scope cl C X.env) fp) tg b is) (ht : ∀ (s : Shared) (H : Hp) (C : Addr) (cl : List (Str × Addr)) (fp : List Addr), TsV (X.blk s H scope (compEnvC scope cl C X.env) fp) ifs ft)
    (hi1 : ∀ (s : Shared) (H : Hp) (C : Addr) (cl : List (Str × Addr)) (fp : List Addr), IVt (X.blk s H scope (compEnvC scope cl C X.env) fp) tg1 iter1 fi1 [])
    (hg1 : ∀ (s : Shared) (H : Hp) (C : Addr) (cl : List (Str × Addr)) (fp : List Addr), GV (X.blk s H scope (compEnvC scope cl C X.env) fp) tg1 b1 is1) (ht1 : ∀ (s : Shared) (H : Hp) (C : Addr) (cl : List (Str × Addr)) (fp : List Addr), TsV (X.blk s H scope (compEnvC scope cl C X.env) fp) ifs1 ft1)
    (he : ∀ (s : Shared) (H : Hp) (C : Addr) (cl : List (Str × Addr)) (fp : List Addr), EV (X.blk s H scope (compEnvC scope cl C X.env) fp) elt fe ale) (his : ∀ j ∈ is, j ∈ own.map (·.2)) (his1 : ∀ j ∈ is1, j ∈ vs1) (hs : ∀ x, foldedSetIterable iter X.env x = pure x := by intro _; rfl) (hs1 : ∀ env x, foldedSetIterable iter1 env x = pure x := by intro _ _; rfl) :
    SV X O (.Assign [.Name y py] (.ListComp elt [⟨tg, iter, ifs, 0⟩, ⟨tg1, iter1, ifs1, 0⟩] scope pos) spos) (fSet i [] (fLc2 fi b ft fi1 b1 ft1 fe (own.map (·.2)) vs1)) :=
  ps_w (ps_setLc2 (g := gV X b is) (tt := tVT X ft) (wi1 := iV X fi1 []) (g1 := gV X b1 is1) (tt1 := tVT X ft1) (te := tV X fe ale) hc hN hy hyl hsw hi ok hv hg ht hi1 hg1 ht1 he hs hs1) fun D σ H ⟨H0, τ, r, v, hgr, p⟩ => by
    obtain ⟨u, e1, e2⟩ := bind_some hgr
    split at e2
    · rename_i okk
      cases e2
      exact lc2_w his his1 ⟨τ, u, v.rel, e1, fun y H' s uy fy => p _ _ (v.set s uy fy okk)⟩
    · cases e2
end
end VL

set_option Elab.async false
set_option linter.all false
set_option maxRecDepth 100000
set_option maxHeartbeats 400000
/-! VLn: defs, their promises by values, calls. -/
namespace VL
open PySem L2 PyProof.Rows

def okArgs (us : List U) : Bool := decide ((us.filter mutU).length ≤ 1)
def spV (P : Program) (w : World) (K : PySem.W.Frag) (n : Nat) (F : List U → Option U) : Sp := fun vs H Q _ => ∃ us r, us.length = n ∧ UVs P w K H vs us ∧ okArgs us = true ∧ F us = some r ∧
  ∀ v H', Same H H' → UV P w K H' v r → (mutU r = true → Fr H v) → Q v H'
def startU (n : Nat) (us : List U) : Sh := us.map some ++ List.replicate (n - us.length) none
def runG (n : Nat) (g : Sh → Option Res) : List U → Option U := fun us => (g (startU n us)).bind fun r => match r with
  | .rt u => some u
  | .nx _ => some (.im .none)
section
variable {P : Program} {w : World} {K : PySem.W.Frag} {mg : Str → Option Value} {base : Heap}
theorem startU_get {n : Nat} {us : List U} {i : Nat} {u : U} (h : (startU n us)[i]? = some (some u)) : us[i]? = some u := by
  unfold startU at h
  rcases Nat.lt_or_ge i us.length with q | q
  · rw [List.getElem?_append_left (by rw [List.length_map]; exact q), List.getElem?_map] at h
    cases e : us[i]? with
    | none => rw [e] at h; cases h
    | some y => rw [e] at h; cases h; rfl
  · rw [List.getElem?_append_right (by rw [List.length_map]; exact q), List.getElem?_replicate] at h
    split at h <;> cases h
theorem start_get {N : List Str} {vs : List V} {i : Nat} {v : V} (h : vs[i]? = some v) : (L2.start N vs)[i]? = some (some v) := by
  unfold L2.start
  have q : i < vs.length := (List.getElem?_eq_some_iff.mp h).1
  rw [List.getElem?_append_left (by rw [List.length_map]; exact q), List.getElem?_map, h]
  rfl
theorem two_mut : ∀ {us : List U} {i j : Nat} {u u' : U}, i < j → us[i]? = some u → us[j]? = some u' → mutU u = true → mutU u' = true → 2 ≤ (us.filter mutU).length
  | [], _, _, _, _, _, h, _, _, _ => by simp at h
  | x :: us, 0, j + 1, u, u', _, h1, h2, m1, m2 => by
    simp at h1 h2
    subst h1
    rw [List.filter_cons_of_pos m1, List.length_cons]
    have : 0 < (us.filter mutU).length := List.length_pos_of_mem (List.mem_filter.mpr ⟨List.mem_of_getElem? h2, m2⟩)
    omega
  | x :: us, i + 1, j + 1, u, u', hij, h1, h2, m1, m2 => by
    have q := two_mut (us := us) (i := i) (j := j) (by omega) (by simpa using h1) (by simpa using h2) m1 m2
    have : (us.filter mutU).length ≤ ((x :: us).filter mutU).length := by
      rw [List.filter_cons]
      split
      · rw [List.length_cons]; omega
      · exact Nat.le_refl _
    omega
theorem vi_start {N : List Str} {n : Nat} {O : List Nat} {H : Hp} {vs : List V} {us : List U} (hn : us.length = n) (hN : n ≤ N.length) (hO : ∀ i ∈ O, n ≤ i) (hu : UVs P w K H vs us) (ok : okArgs us = true) : VI P w K O H H (L2.start N vs) (startU N.length us) := by
  have hl := hu.length
  refine ⟨by unfold L2.start startU; simp only [List.length_append, List.length_map, List.length_replicate]; omega, Same.refl H, ⟨by unfold L2.start startU; simp only [List.length_append, List.length_map, List.length_replicate]; omega, fun i u e => ?_⟩, fun i j u u' v hij e1 e2 m1 m2 f1 f2 => ?_, fun i u a hi e m f => ?_⟩
  · have e1 := startU_get e
    have hi : i < vs.length := by rw [hl]; exact (List.getElem?_eq_some_iff.mp e1).1
    have e2 : vs[i]? = some vs[i] := List.getElem?_eq_getElem hi
    exact ⟨_, start_get e2, hu.at e2 e1⟩
  · have g1 := startU_get e1
    have g2 := startU_get e2
    have ok := of_decide_eq_true ok
    rcases Nat.lt_or_gt_of_ne hij with q | q
    · have := two_mut q g1 g2 m1 m2
      omega
    · have := two_mut q g2 g1 m2 m1
      omega
  · have g1 := startU_get e
    have q := (List.getElem?_eq_some_iff.mp g1).1
    have := hO i hi
    omega
/-- a def of the text, as the top has written it -/
structure Tx (K : PySem.W.Frag) (mg : Str → Option Value) (x : Str) (st : Stmt) (ps : List Str) : Prop where
  ex : ∃ f fd, mg x = some (.ref f) ∧ Fun K x x st f fd ∧ Binds K fd ps []
/-- a def that keeps the promise F -/
structure DS (P : Program) (w : World) (K : PySem.W.Frag) (mg : Str → Option Value) (base : Heap) (k : Nat) (x : Str) (ps : List Str) (sp : Sp) : Prop where
  ex : ∃ f fd, mg x = some (.ref f) ∧ PySem.W.keepIn K (.ref f) = true ∧ Binds K fd ps [] ∧ FnOk P w K mg base CX0 k f fd ps sp
abbrev DV (P : Program) (w : World) (K : PySem.W.Frag) (mg : Str → Option Value) (base : Heap) (k : Nat) (x : Str) (ps : List Str) (F : List U → Option U) : Prop := DS P w K mg base k x ps (spV P w K ps.length F)
theorem DS.mono {j k : Nat} {x : Str} {ps : List Str} {sp : Sp} (h : DS P w K mg base j x ps sp) (l : j ≤ k) : DS P w K mg base k x ps sp := by
  obtain ⟨f, fd, a, b, c, d⟩ := h.ex
  exact ⟨f, fd, a, b, c, d.mono l⟩
/-- the body, by values -/
theorem dv_of {x : Str} {st : Stmt} {N ps : List Str} {k : Nat} {O : List Nat} {g : Sh → Option Res} (T : Tx K mg x st ps) (S : FnScope N ps (defScope st)) (hO : ∀ i ∈ O, ps.length ≤ i)
    (hb : ∀ (f : Addr) (cdv : Value) (A : Around) (outer : List Env) (s : Shared) (H : Hp) (E : XK), Room k (A.deeper (envOfC x (defScope st) s.heap.objs.size f cdv)) →
      SVs (cxOf CX0 P w K mg base N x (defScope st) f cdv A outer s H E).nox O (defBody st) g) : DV P w K mg base (k + 1) x ps (runG N.length g) := by
  obtain ⟨f, fd, hm, F, b⟩ := T.ex
  refine ⟨f, fd, hm, F.kp, b, F.ok S (fun vs H Q E h => ?_) (fun cdv A outer s H vs Q E hr h => ?_)⟩
  · obtain ⟨us, r, hl, hu, _⟩ := h
    rw [hu.length, hl]
  · obtain ⟨us, r, hl, hu, ok, hF, q⟩ := h
    have hpl : ps.length ≤ N.length := by have := congrArg List.length S.pre; rw [List.length_take] at this; omega
    have hv := vi_start (N := N) hl hpl hO hu ok
    unfold runG at hF
    obtain ⟨res, e1, e2⟩ := bind_some hF
    refine ⟨_, hb f cdv A outer s H E hr, H, startU N.length us, res, hv, e1, ?_⟩
    cases res with
    | nx τ =>
      cases e2
      exact fun σ' H' v' => q _ H' v'.same IV.non fun m => by cases m
    | rt u =>
      cases e2
      exact fun v H' s' u' f' => q v H' s' u' f'
end
def fCallD (F : List U → Option U) (fa : Sh → Option (List U)) : Sh → Option U := fun τ => (fa τ).bind fun us => if okArgs us = true then F us else none
section
variable {X : Cx} {k : Nat} {x : Str} {ps : List Str} {F : List U → Option U} {p pos : Pos} {e : Expr} {es : List Expr} {fa : Sh → Option (List U)}
theorem ev_call (D : DV X.prog X.w X.K X.mg X.base k x ps F) (hr : Room k X.A) (hg : Gl X x) (ha : AV X (e :: es) fa) (hn : ∀ τ us, fa τ = some us → us.length = ps.length) (hdb : (x == ("__debug__" : Str)) = false := by decide)
    (he : starEach (e :: es) X.env = (false, eval e X.env) :: starEach es X.env := by rfl) (hpl : (backTo pos (starEach es X.env)).any (·.1) = false := by rfl) : EV X (.Call (.Name x p) (e :: es) [] pos) (fCallD F fa) [] := by
  obtain ⟨f, fd, hm, kp, b, G⟩ := D.ex
  refine pe_w (pe_call G hr hg hm kp b .nil pass0 ha hdb he hpl) fun σ H Q ⟨τ, u, hrel, hf, q⟩ => ?_
  obtain ⟨us, e1, e2⟩ := bind_some hf
  split at e2
  · rename_i ok
    refine ⟨τ, us, hrel, e1, fun vs H1 s1 u1 => ?_⟩
    show spV X.prog X.w X.K ps.length F (vs ++ []) H1 Q E0
    rw [List.append_nil]
    refine ⟨us, u, hn τ us e1, u1, ok, e2, fun v H' s2 uv fr => q v H' (s1.trans s2) uv fun m => .inl ?_⟩
    obtain ⟨a, rfl, ha⟩ := fr m
    exact ⟨a, rfl, s1.free ha⟩
  · cases e2
theorem ev_call0 (D : DV X.prog X.w X.K X.mg X.base k x [] F) (hr : Room k X.A) (hg : Gl X x) (hdb : (x == ("__debug__" : Str)) = false := by decide) : EV X (.Call (.Name x p) [] [] pos) (fCallD F fNil) [] := by
  obtain ⟨f, fd, hm, kp, b, G⟩ := D.ex
  refine pe_w (pe_call0 G hr hg hm kp b .nil pass0 hdb) fun σ H Q ⟨τ, u, hrel, hf, q⟩ => ?_
  obtain ⟨us, e1, e2⟩ := bind_some hf
  cases e1
  split at e2
  · refine ⟨[], u, rfl, .nil, rfl, e2, fun v H' s2 uv fr => q v H' s2 uv fun m => .inl ?_⟩
    exact fr m
  · cases e2
theorem len_nil {τ : Sh} {us : List U} (h : fNil τ = some us) : us.length = 0 := by cases h; rfl
theorem len_cons {f : Sh → Option U} {g : Sh → Option (List U)} {n : Nat} (hg : ∀ τ us, g τ = some us → us.length = n) : ∀ τ us, fCons f g τ = some us → us.length = n + 1 := fun τ us h => by
  obtain ⟨u, _, h⟩ := bind_some h
  obtain ⟨vs, e, h⟩ := bind_some h
  cases h
  rw [List.length_cons, hg τ vs e]
theorem len1 {f : Sh → Option U} : ∀ τ us, fCons f fNil τ = some us → us.length = 1 := len_cons fun _ _ => len_nil
theorem len2 {f f' : Sh → Option U} : ∀ τ us, fCons f (fCons f' fNil) τ = some us → us.length = 2 := len_cons len1
theorem len3 {f f' f'' : Sh → Option U} : ∀ τ us, fCons f (fCons f' (fCons f'' fNil)) τ = some us → us.length = 3 := len_cons len2
theorem len4 {f f' f'' f3 : Sh → Option U} : ∀ τ us, fCons f (fCons f' (fCons f'' (fCons f3 fNil))) τ = some us → us.length = 4 := len_cons len3
end
end VL

set_option Elab.async false
set_option linter.all false
set_option maxRecDepth 100000
set_option maxHeartbeats 400000
/-! VLo: sorted(set(t)) of a rising tuple of numbers; small rules for the printed walks. -/
namespace VL
open PySem L2 PyProof.Rows

theorem asc_eq : ∀ {xs ys : List Int}, xs.Pairwise (· < ·) → ys.Pairwise (· < ·) → (∀ k, k ∈ xs ↔ k ∈ ys) → xs = ys
  | [], [], _, _, _ => rfl
  | [], y :: ys, _, _, h => absurd ((h y).mpr List.mem_cons_self) (by simp)
  | x :: xs, [], _, _, h => absurd ((h x).mp List.mem_cons_self) (by simp)
  | x :: xs, y :: ys, hx, hy, h => by
    rw [List.pairwise_cons] at hx hy
    have e : x = y := by
      rcases List.mem_cons.mp ((h x).mp List.mem_cons_self) with e | e
      · exact e
      · rcases List.mem_cons.mp ((h y).mpr List.mem_cons_self) with e' | e'
        · exact e'.symm
        · have := hx.1 y e'
          have := hy.1 x e
          omega
    subst e
    rw [asc_eq hx.2 hy.2 fun k => ⟨fun m => ?_, fun m => ?_⟩]
    · rcases List.mem_cons.mp ((h k).mp (List.mem_cons_of_mem _ m)) with e | e
      · subst e
        have := hx.1 k m
        omega
      · exact e
    · rcases List.mem_cons.mp ((h k).mpr (List.mem_cons_of_mem _ m)) with e | e
      · subst e
        have := hy.1 k m
        omega
      · exact e
def numsOf : List D → Option (List Int)
  | [] => some []
  | .num i :: ds => (numsOf ds).map (i :: ·)
  | _ => none
theorem numsOf_some : ∀ {ds : List D} {ns : List Int}, numsOf ds = some ns → ds = ns.map .num
  | [], ns, h => by cases h; rfl
  | .num i :: ds, ns, h => by
    obtain ⟨ms, e, rfl⟩ := Option.map_eq_some_iff.mp h
    rw [numsOf_some e]
    rfl
  | .none :: _, _, h => by cases h
  | .text _ :: _, _, h => by cases h
  | .tup _ :: _, _, h => by cases h
theorem ivs_nums {K : PySem.W.Frag} {H : Hp} : ∀ {ns : List Int} {xs : List V}, IVs K H xs (ns.map .num) → xs = ns.map V.int
  | [], _, .nil => rfl
  | _ :: _, _, .cons a b => by
    cases IV.of_num a
    rw [ivs_nums b]
    rfl
theorem nums_ivs {K : PySem.W.Frag} {H : Hp} : ∀ {ns : List Int}, IVs K H (ns.map V.int) (ns.map .num)
  | [] => .nil
  | _ :: _ => .cons IV.num nums_ivs
def srtSetU : U → Option U
  | .im (.tup ds) => (numsOf ds).bind fun ns => if ns.Pairwise (· < ·) ∧ ns.length < 64 then some (.ls ds) else none
  | _ => none
section
variable {X : Cx}
def rSetT (X : Cx) : List V → Hp → VK → Prop := fun xs H Q => ∃ (a : Addr) (ns : List Int), xs = [.ref a] ∧ SqT X.K H a (ns.map V.int) ∧ ns.length < 64 ∧
  ∀ (p : Addr) (c : Nat), H p = none → c ≤ ns.length → Q (.ref p) (upd H p (SetO X.w p (fun j => decide (j ∈ ns)) c))
theorem cr_setT (hc : X.calm = true) : CallR X (.type "set") (rSetT X) := by
  intro pins s σ H xs us Q I r ⟨a, ns, e, ht, hl, q⟩
  subst e
  rw [Vals.ref1 r]
  obtain ⟨items, vals, tu, _⟩ := I.tuple ht
  have hit : IntsAre items.toArray.toList ns := ints_of_vals vals
  have hs : ns.length + 1 < scanBound := Nat.lt_of_le_of_lt (by omega : ns.length + 1 ≤ 65) (by decide)
  refine call_set_tupI (P := X.prog) (w := X.w) ns (I.ok.hd hc) tu hit hs fun h' tk c R hc' keep => ?_
  refine ⟨.ref _, _, I.laid (t' := tk) keep (Nat.le_refl _) (setO_new R), rfl, q _ c (I.hok.fresh (Nat.le_refl _)) hc'⟩
theorem ev_srtSet {e : Expr} {p p2 pos2 pos : Pos} {f : Sh → Option U} {al : List Nat} (hc : X.calm = true) (hg : Gl X "sorted") (hm : X.mg "sorted" = none) (hg2 : Gl X "set") (hm2 : X.mg "set" = none) (he : EV X e f al)
    (hst : starEach [.Call (.Name "set" p2) [e] [] pos2] X.env = (false, eval (.Call (.Name "set" p2) [e] [] pos2) X.env) :: starEach [] X.env := by rfl) (hpl : (backTo pos (starEach [] X.env)).any (·.1) = false := by rfl)
    (hst2 : starEach [e] X.env = (false, eval e X.env) :: starEach [] X.env := by rfl) (hpl2 : (backTo pos2 (starEach [] X.env)).any (·.1) = false := by rfl) :
    EV X (.Call (.Name "sorted" p) [.Call (.Name "set" p2) [e] [] pos2] [] pos) (f1 srtSetU f) [] :=
  pe_w (pe_callB (cr_sortedSet hc) hg hm (by decide +kernel) (pa_cons (pe_callTy (cr_setT hc) hg2 hm2 (by decide +kernel) (pa_cons he pa_nil hst2) (by decide) (by decide) hst2 hpl2) pa_nil hst) (by decide) (by decide) hst hpl) fun σ H Q ⟨τ, u, hr, hf, q⟩ => by
    obtain ⟨u1, e1, hf1⟩ := bind_some hf
    unfold srtSetU at hf1
    split at hf1
    · rename_i ds
      obtain ⟨ns, e2, hf2⟩ := bind_some hf1
      split at hf2
      · rename_i ok
        cases hf2
        have ed := numsOf_some e2
        refine ⟨τ, _, hr, e1, fun v H1 s1 uv _ => ?_⟩
        obtain ⟨a, xs, rfl, ht, hx⟩ := IV.of_tup uv
        rw [ed] at hx
        rw [ivs_nums hx] at ht
        refine ⟨a, ns, rfl, ht, ok.2, fun p c np hc' => ⟨p, _, c, rfl, upd_same, by omega, fun ms q' asc mem hl nq => ?_⟩⟩
        have em : ms = ns := asc_eq asc ok.1 fun k => by rw [mem k]; simp
        subst em
        have sp := laid_same (o := SetO X.w p (fun j => decide (j ∈ ms)) c) np
        have sq := laid_same (o := .lst (ms.map V.int)) nq
        refine q _ _ ((s1.trans sp).trans sq) ⟨q', _, rfl, upd_same, by rw [ed]; exact nums_ivs⟩ fun _ => .inl ⟨q', rfl, (s1.trans sp).free nq⟩
      · cases hf2
    · cases hf1
theorem ev_glob {x : Str} {i : Int} {pos : Pos} (hg : Gl X x) (hm : ∃ t, X.mg x = some (.int i t)) (hd : (x == ("__debug__" : Str)) = false := by decide) : EV X (.Name x pos) (fC (.im (.num i))) [] := by
  obtain ⟨t, hm⟩ := hm
  exact ev_globI hg hm hd
theorem sw_trueD {kx vx : Expr} {gs : List Comprehension} {scope : Scope} {pos py : Pos} {y : Str} {l : Nat} {env : Env} (hk : env.scope.kind = .function) (hy : env.scope.names.lookup y = some .local) (hl : (py.line == pos.line) = true)
    (ha : (scope.names.any fun (n, k) => n == y && (k == .local || k == .cell)) = false) : swapsWith (.DictComp kx vx gs scope pos) (some (.Name y py)) l env = pure true := by
  have ky : env.kindOf y = some .local := hy
  have hb : env.blockKind = .function := by unfold Env.blockKind; rw [hk]; rfl
  unfold swapsWith
  simp only [hb, ky, ha, Expr.pos, hl]
  rfl
end
/-! sorted(t) of a tuple -/
def srtTU : List U → Option U
  | [.im (.tup ds)] => if SrtOk ds then some (.ls (srtD ds)) else none
  | _ => none
section
variable {X : Cx}
theorem ca_sortedT (hu : X.A.units + 64 < cLine) : CallR X (.builtin "sorted") (rVA X srtTU) := by
  intro pins s σ H xs us Q I r ⟨ws, u, uv, hg, k⟩
  unfold srtTU at hg
  split at hg
  · rename_i ds
    split at hg
    · rename_i so
      cases hg
      obtain ⟨x, rfl, hx⟩ := uvs1 uv
      obtain ⟨a, ys, rfl, ht, hy⟩ := IV.of_tup hx
      obtain ⟨u1, rfl, rfl⟩ := vals1 r
      obtain ⟨its, rv, tu, hz⟩ := I.tuple ht
      obtain ⟨o, ho, hc, n, hd⟩ := id tu
      have hlen : ds.length ≤ sizeLine := by rw [← hy.length]; exact hz
      have hil : its.length = ds.length := rv.length.symm.trans hy.length
      refine Calls.call_function_entry PyProof.Rows.kind_sorted PyProof.Rows.plain_sorted PyProof.Rows.entry_sorted (PyProof.Rows.args_sorted1 _) ?_
      unfold Builtin.«sorted»
      refine wpAny_bind (m := checkCount "sorted" 1 1 _) (wpAny_pure ?_)
      refine wpAny_bind (wpAny_collect_seq (A := X.A.in1) a (.inr rfl) ho hc hd (fun h' hkeep => ?_) (by show its.toArray.size ≤ sizeLine; rw [List.size_toArray, hil]; exact hlen))
      show wpAny _ _ _ _ _ _
      have hit : its.toArray.toList = its := by simp
      rw [hit]
      refine wpAny_bind (wpAny_newList ?_ (by rw [hil]; exact hlen))
      have I1 : Inv X pins σ H { s with heap := h' } := I.kept (t' := s.toks) hkeep
      have ea : PySem.W.EachIs (IE X.K H) its ds := each_iv hy rv
      have nin : ∀ (ds : List D) (vs : List Value), PySem.W.EachIs (IE X.K H) vs ds → PySem.W.EachIs (fun v b => ∃ as, Reads (h'.push { cls := .type "list", data := .seq its.toArray }) v (NestedKey.data b) as ∧ h'.objs.size ∉ as) vs ds := by
        intro ds vs h
        induction h with
        | nil => exact .nil
        | cons a _ ih =>
          obtain ⟨z, r, iv⟩ := a
          obtain ⟨as, hr⟩ := Dp.reads I1 _ _ _ iv.dp r
          refine .cons ⟨as, PyProof.Rows.Reads.keeps (fun b o e => Heap.get?_push_of_some _ e) hr, fun m => ?_⟩ ih
          rw [reads_none _ _ _ hr] at m
          cases m
      have hg := PySem.W.list_sort_data (prog := X.prog) (w := X.w) (A := X.A.in1) (E := X.xe) (s := { s with heap := h'.push { cls := .type "list", data := .seq its.toArray } }) (a := h'.objs.size) (n := 0) (vs := its) (bs := ds) (enc := NestedKey.data) (R := IE X.K H)
        (Q := fun _ s' => EP X pins σ Q (.ref h'.objs.size) s') (Heap.get?_push_size _ rfl) ea (nin _ _ ea) so.al so.so hlen (fun b hb => ?_) fun out hol eo => ?_
      · refine wpAny_bind (wpAny_holding (wpAny_mono hg (fun _ s' x => ?_) fun _ _ e => e))
        exact wpAny_pure ⟨_, rfl, x⟩
      · have h1 := depth_mem hb
        have h2 := hy.deps
        rw [depth_data, Around.in1_units]
        show X.A.units + 1 + 1 + b.depth < cLine
        omega
      · obtain ⟨zs, rz, iz⟩ := iv_each eo
        obtain ⟨ep', he'⟩ := PyProof.Rows.sortedHeap_at (h := h'.push { cls := .type "list", data := .seq its.toArray }) (a := h'.objs.size) (n := 0) (vs := its) (out := out.toArray) (Heap.get?_push_size _ rfl)
        have hz : zs.length ≤ sizeLine := by rw [rz.length, hol]; exact hlen
        have np : H h'.objs.size = none := I1.hok.fresh (Nat.le_refl _)
        have sp := laid_same (o := .lst zs) np
        refine ⟨.ref _, upd H h'.objs.size (.lst zs), I1.laid (t' := s.toks) (fun b o e => ?_) (Nat.le_refl _) ⟨hz, out, ep', rz, he'⟩, rfl, k _ _ sp ⟨_, zs, rfl, upd_same, iz.keep (Same.tk sp)⟩ fun _ => ⟨_, rfl, np⟩⟩
        exact (PyProof.Rows.sortedHeap_old (Nat.ne_of_lt (Heap.lt_size e)) (by rw [Heap.size_push]; exact Nat.lt_succ_of_lt (Heap.lt_size e))).trans (Heap.get?_push_of_some _ e)
    · cases hg
  · cases hg
end
/-! is None as a test -/
section
variable {X : Cx} {e : Expr} {pos pos' : Pos} {j : Nat} {f : Sh → Option U} {al : List Nat}
theorem isN_w {σ : L2.St} {H : Hp} {Q : VK} (h : tV X (f1 isNU f) [] σ H Q) : tOp (fun x y H Q => y = .non ∧ Q (.bl (decide (x = .non))) H) (tV X f al) (tC .non) σ H Q := by
  obtain ⟨τ, u, hr, hf, q⟩ := h
  obtain ⟨p, e1, e2⟩ := bind_some hf
  refine ⟨τ, p, hr, e1, fun x H1 s1 u1 _ => ⟨rfl, ?_⟩⟩
  unfold isNU at e2
  split at e2
  · cases e2
    rw [none_iff u1]
    exact q _ H1 s1 rfl fun m => by cases m
  · cases e2
    cases u1
    exact q _ H1 s1 rfl fun m => by cases m
  · cases e2
theorem notN_w {σ : L2.St} {H : Hp} {Q : VK} (h : tV X (f1 notNU f) [] σ H Q) : tOp (fun x y H Q => y = .non ∧ Q (.bl (!decide (x = .non))) H) (tV X f al) (tC .non) σ H Q := by
  obtain ⟨τ, u, hr, hf, q⟩ := h
  obtain ⟨p, e1, e2⟩ := bind_some hf
  refine ⟨τ, p, hr, e1, fun x H1 s1 u1 _ => ⟨rfl, ?_⟩⟩
  unfold notNU at e2
  split at e2
  · cases e2
    rw [none_iff u1]
    exact q _ H1 s1 rfl fun m => by cases m
  · cases e2
    cases u1
    exact q _ H1 s1 rfl fun m => by cases m
  · cases e2
theorem tv_isN {j} (h : EV X e f al) : TV X (.Compare e [.Is] [.Constant .none j pos'] pos) (fB (f1 isNU f)) :=
  pt_w (pt_cmpR op_isN h pe_non (nomark _)) fun σ H Q ⟨τ, k, hr, hf, q⟩ => by
    obtain ⟨u, e1, e2⟩ := bind_some hf
    have e3 := isB_some e2
    subst e3
    exact isN_w ⟨τ, .bl k, hr, e1, fun v H' s1 u1 _ => ⟨k, u1, q H' s1⟩⟩
theorem tv_notN {j} (h : EV X e f al) : TV X (.Compare e [.IsNot] [.Constant .none j pos'] pos) (fB (f1 notNU f)) :=
  pt_w (pt_cmpR op_notN h pe_non (nomark _)) fun σ H Q ⟨τ, k, hr, hf, q⟩ => by
    obtain ⟨u, e1, e2⟩ := bind_some hf
    have e3 := isB_some e2
    subst e3
    exact notN_w ⟨τ, .bl k, hr, e1, fun v H' s1 u1 _ => ⟨k, u1, q H' s1⟩⟩
end
/-! comprehensions, their slots said outright -/
section
variable {X : Cx} {O : List Nat}
theorem ev_lcW {vs : List Nat} {elt tg iter : Expr} {ifs : List Expr} {scope : Scope} {own : List (Str × Nat)} {pos : Pos} {fi : Sh → Option (List D)} {al is : List Nat} {b : D → Sh → Option Sh} {ft : Sh → Option Bool} {fe : Sh → Option U} {ale : List Nat} (hc : X.calm = true) (hN : X.N.Nodup) (hi : IVt X tg iter fi al) (ok : BlkOk X.N X.env.scope scope own)
    (hg : ∀ (s : Shared) (H : Hp) (C : Addr) (cl : List (Str × Addr)) (fp : List Addr), GV (X.blk s H scope (compEnvC scope cl C X.env) fp) tg b is) (ht : ∀ (s : Shared) (H : Hp) (C : Addr) (cl : List (Str × Addr)) (fp : List Addr), TsV (X.blk s H scope (compEnvC scope cl C X.env) fp) ifs ft)
    (he : ∀ (s : Shared) (H : Hp) (C : Addr) (cl : List (Str × Addr)) (fp : List Addr), EV (X.blk s H scope (compEnvC scope cl C X.env) fp) elt fe ale) (his : ∀ j ∈ is, j ∈ own.map (·.2)) (hs : ∀ x, foldedSetIterable iter X.env x = pure x := by intro _; rfl) (hvs : own.map (·.2) = vs := by rfl) :
    EV X (.ListComp elt [⟨tg, iter, ifs, 0⟩] scope pos) (fLc fi b ft fe vs) [] := by
  subst hvs
  exact ev_lc hc hN hi ok hg ht he his hs
theorem sv_setLcW {vs : List Nat} {i : Nat} {y : Str} {py : Pos} {elt tg iter : Expr} {ifs : List Expr} {scope : Scope} {own : List (Str × Nat)} {pos spos : Pos} {fi : Sh → Option (List D)} {al is : List Nat} {b : D → Sh → Option Sh} {ft : Sh → Option Bool} {fe : Sh → Option U} {ale : List Nat} (hc : X.calm = true) (hN : X.N.Nodup) (hy : X.N[i]? = some y)
    (hyl : X.env.scope.names.lookup y = some .local) (hsw : swapsWith (.ListComp elt [⟨tg, iter, ifs, 0⟩] scope pos) (some (.Name y py)) spos.line X.env = pure true) (hi : IVt X tg iter fi al) (ok : BlkOk X.N X.env.scope scope own)
    (hg : ∀ (s : Shared) (H : Hp) (C : Addr) (cl : List (Str × Addr)) (fp : List Addr), GV (X.blk s H scope (compEnvC scope cl C X.env) fp) tg b is) (ht : ∀ (s : Shared) (H : Hp) (C : Addr) (cl : List (Str × Addr)) (fp : List Addr), TsV (X.blk s H scope (compEnvC scope cl C X.env) fp) ifs ft)
    (he : ∀ (s : Shared) (H : Hp) (C : Addr) (cl : List (Str × Addr)) (fp : List Addr), EV (X.blk s H scope (compEnvC scope cl C X.env) fp) elt fe ale) (his : ∀ j ∈ is, j ∈ own.map (·.2)) (hs : ∀ x, foldedSetIterable iter X.env x = pure x := by intro _; rfl) (hvs : own.map (·.2) = vs := by rfl) :
    SV X O (.Assign [.Name y py] (.ListComp elt [⟨tg, iter, ifs, 0⟩] scope pos) spos) (fSet i [] (fLc fi b ft fe vs)) := by
  subst hvs
  exact sv_setLc hc hN hy hyl hsw hi ok hg ht he his hs
theorem ev_dcW {vs : List Nat} {kx vx tg iter : Expr} {ifs : List Expr} {scope : Scope} {own : List (Str × Nat)} {pos : Pos} {fi : Sh → Option (List D)} {al is : List Nat} {b : D → Sh → Option Sh} {ft : Sh → Option Bool} {fk fe : Sh → Option U} {alk ale : List Nat} (hu : X.A.units + 64 < cLine) (hc : X.calm = true) (hN : X.N.Nodup) (hi : IVt X tg iter fi al) (ok : BlkOk X.N X.env.scope scope own)
    (hg : ∀ (s : Shared) (H : Hp) (C : Addr) (cl : List (Str × Addr)) (fp : List Addr), GV (X.blk s H scope (compEnvC scope cl C X.env) fp) tg b is) (ht : ∀ (s : Shared) (H : Hp) (C : Addr) (cl : List (Str × Addr)) (fp : List Addr), TsV (X.blk s H scope (compEnvC scope cl C X.env) fp) ifs ft)
    (hk : ∀ (s : Shared) (H : Hp) (C : Addr) (cl : List (Str × Addr)) (fp : List Addr), EV (X.blk s H scope (compEnvC scope cl C X.env) fp) kx fk alk) (he : ∀ (s : Shared) (H : Hp) (C : Addr) (cl : List (Str × Addr)) (fp : List Addr), EV (X.blk s H scope (compEnvC scope cl C X.env) fp) vx fe ale)
    (his : ∀ j ∈ is, j ∈ own.map (·.2)) (hs : ∀ x, foldedSetIterable iter X.env x = pure x := by intro _; rfl) (hvs : own.map (·.2) = vs := by rfl) : EV X (.DictComp kx vx [⟨tg, iter, ifs, 0⟩] scope pos) (fDc fi b ft fk fe vs) [] := by
  subst hvs
  exact ev_dc hu hc hN hi ok hg ht hk he his hs
theorem sv_setDcW {vs : List Nat} {i : Nat} {y : Str} {py : Pos} {kx vx tg iter : Expr} {ifs : List Expr} {scope : Scope} {own : List (Str × Nat)} {pos spos : Pos} {fi : Sh → Option (List D)} {al is : List Nat} {b : D → Sh → Option Sh} {ft : Sh → Option Bool} {fk fe : Sh → Option U} {alk ale : List Nat} (hu : X.A.units + 64 < cLine) (hc : X.calm = true) (hN : X.N.Nodup) (hy : X.N[i]? = some y)
    (hyl : X.env.scope.names.lookup y = some .local) (hsw : swapsWith (.DictComp kx vx [⟨tg, iter, ifs, 0⟩] scope pos) (some (.Name y py)) spos.line X.env = pure true) (hi : IVt X tg iter fi al) (ok : BlkOk X.N X.env.scope scope own)
    (hg : ∀ (s : Shared) (H : Hp) (C : Addr) (cl : List (Str × Addr)) (fp : List Addr), GV (X.blk s H scope (compEnvC scope cl C X.env) fp) tg b is) (ht : ∀ (s : Shared) (H : Hp) (C : Addr) (cl : List (Str × Addr)) (fp : List Addr), TsV (X.blk s H scope (compEnvC scope cl C X.env) fp) ifs ft)
    (hk : ∀ (s : Shared) (H : Hp) (C : Addr) (cl : List (Str × Addr)) (fp : List Addr), EV (X.blk s H scope (compEnvC scope cl C X.env) fp) kx fk alk) (he : ∀ (s : Shared) (H : Hp) (C : Addr) (cl : List (Str × Addr)) (fp : List Addr), EV (X.blk s H scope (compEnvC scope cl C X.env) fp) vx fe ale)
    (his : ∀ j ∈ is, j ∈ own.map (·.2)) (hs : ∀ x, foldedSetIterable iter X.env x = pure x := by intro _; rfl) (hvs : own.map (·.2) = vs := by rfl) : SV X O (.Assign [.Name y py] (.DictComp kx vx [⟨tg, iter, ifs, 0⟩] scope pos) spos) (fSet i [] (fDc fi b ft fk fe vs)) := by
  subst hvs
  exact sv_setDc hu hc hN hy hyl hsw hi ok hg ht hk he his hs
theorem sv_setLc2W {vs : List Nat} {i : Nat} {y : Str} {py : Pos} {elt tg iter tg1 iter1 : Expr} {ifs ifs1 : List Expr} {scope : Scope} {own : List (Str × Nat)} {vs1 : List Nat} {pos spos : Pos} {fi fi1 : Sh → Option (List D)} {al is is1 : List Nat} {b b1 : D → Sh → Option Sh} {ft ft1 : Sh → Option Bool} {fe : Sh → Option U} {ale : List Nat} (hc : X.calm = true) (hN : X.N.Nodup) (hy : X.N[i]? = some y)
    (hyl : X.env.scope.names.lookup y = some .local) (hsw : swapsWith (.ListComp elt [⟨tg, iter, ifs, 0⟩, ⟨tg1, iter1, ifs1, 0⟩] scope pos) (some (.Name y py)) spos.line X.env = pure true) (hi : IVt X tg iter fi al) (ok : BlkOk X.N X.env.scope scope own) (hv : ∀ i ∈ vs1, i ∈ own.map (·.2))
    (hg : ∀ (s : Shared) (H : Hp) (C : Addr) (cl : List (Str × Addr)) (fp : List Addr), GV (X.blk s H scope (compEnvC scope cl C X.env) fp) tg b is) (ht : ∀ (s : Shared) (H : Hp) (C : Addr) (cl : List (Str × Addr)) (fp : List Addr), TsV (X.blk s H scope (compEnvC scope cl C X.env) fp) ifs ft)
    (hi1 : ∀ (s : Shared) (H : Hp) (C : Addr) (cl : List (Str × Addr)) (fp : List Addr), IVt (X.blk s H scope (compEnvC scope cl C X.env) fp) tg1 iter1 fi1 [])
    (hg1 : ∀ (s : Shared) (H : Hp) (C : Addr) (cl : List (Str × Addr)) (fp : List Addr), GV (X.blk s H scope (compEnvC scope cl C X.env) fp) tg1 b1 is1) (ht1 : ∀ (s : Shared) (H : Hp) (C : Addr) (cl : List (Str × Addr)) (fp : List Addr), TsV (X.blk s H scope (compEnvC scope cl C X.env) fp) ifs1 ft1)
    (he : ∀ (s : Shared) (H : Hp) (C : Addr) (cl : List (Str × Addr)) (fp : List Addr), EV (X.blk s H scope (compEnvC scope cl C X.env) fp) elt fe ale) (his : ∀ j ∈ is, j ∈ own.map (·.2)) (his1 : ∀ j ∈ is1, j ∈ vs1) (hs : ∀ x, foldedSetIterable iter X.env x = pure x := by intro _; rfl) (hs1 : ∀ env x, foldedSetIterable iter1 env x = pure x := by intro _ _; rfl) (hvs : own.map (·.2) = vs := by rfl) :
    SV X O (.Assign [.Name y py] (.ListComp elt [⟨tg, iter, ifs, 0⟩, ⟨tg1, iter1, ifs1, 0⟩] scope pos) spos) (fSet i [] (fLc2 fi b ft fi1 b1 ft1 fe vs vs1)) := by
  subst hvs
  exact sv_setLc2 hc hN hy hyl hsw hi ok hv hg ht hi1 hg1 ht1 he his his1 hs hs1
end
end VL

set_option Elab.async false
set_option linter.all false
set_option maxRecDepth 100000
set_option maxHeartbeats 1000000
/-! printed by gen.py: the walks of the plain defs. -/
namespace VL
open PySem L2 PyProof.Rows
def top (i : Nat) : Stmt := PySem.Challenge.pw_fateboards_k16_whole_searches.main.body.getD i (.Pass ⟨0, 0, 0, 0⟩)
abbrev st_is_in : Stmt := top 9
abbrev n_is_in : List Str := ["value", "least", "most"]
theorem sc_is_in : FnScope n_is_in ["value", "least", "most"] (defScope st_is_in) := ⟨rfl, rfl, rfl, by decide +kernel, rfl, by decide +kernel, by decide +kernel⟩
abbrev st_are_counts : Stmt := top 10
abbrev n_are_counts : List Str := ["value", "least", "one"]
theorem sc_are_counts : FnScope n_are_counts ["value", "least"] (defScope st_are_counts) := ⟨rfl, rfl, rfl, by decide +kernel, rfl, by decide +kernel, by decide +kernel⟩
abbrev st_is_rule : Stmt := top 11
abbrev n_is_rule : List Str := ["rule"]
theorem sc_is_rule : FnScope n_is_rule ["rule"] (defScope st_is_rule) := ⟨rfl, rfl, rfl, by decide +kernel, rfl, by decide +kernel, by decide +kernel⟩
abbrev st_need_rule : Stmt := top 12
abbrev n_need_rule : List Str := ["rule"]
theorem sc_need_rule : FnScope n_need_rule ["rule"] (defScope st_need_rule) := ⟨rfl, rfl, rfl, by decide +kernel, rfl, by decide +kernel, by decide +kernel⟩
abbrev st_is_move : Stmt := top 15
abbrev n_is_move : List Str := ["value"]
theorem sc_is_move : FnScope n_is_move ["value"] (defScope st_is_move) := ⟨rfl, rfl, rfl, by decide +kernel, rfl, by decide +kernel, by decide +kernel⟩
abbrev st_is_cell : Stmt := top 16
abbrev n_is_cell : List Str := ["cell"]
theorem sc_is_cell : FnScope n_is_cell ["cell"] (defScope st_is_cell) := ⟨rfl, rfl, rfl, by decide +kernel, rfl, by decide +kernel, by decide +kernel⟩
abbrev st_need_board : Stmt := top 17
abbrev n_need_board : List Str := ["board", "index", "cell"]
theorem sc_need_board : FnScope n_need_board ["board"] (defScope st_need_board) := ⟨rfl, rfl, rfl, by decide +kernel, rfl, by decide +kernel, by decide +kernel⟩
abbrev st_board_of : Stmt := top 18
abbrev n_board_of : List Str := ["cells", "place"]
theorem sc_board_of : FnScope n_board_of ["cells"] (defScope st_board_of) := ⟨rfl, rfl, rfl, by decide +kernel, rfl, by decide +kernel, by decide +kernel⟩
abbrev st_cells_of : Stmt := top 19
abbrev n_cells_of : List Str := ["board", "cell"]
theorem sc_cells_of : FnScope n_cells_of ["board"] (defScope st_cells_of) := ⟨rfl, rfl, rfl, by decide +kernel, rfl, by decide +kernel, by decide +kernel⟩
abbrev st_shifted_in : Stmt := top 20
abbrev n_shifted_in : List Str := ["board", "move", "x", "y", "state"]
theorem sc_shifted_in : FnScope n_shifted_in ["board", "move"] (defScope st_shifted_in) := ⟨rfl, rfl, rfl, by decide +kernel, rfl, by decide +kernel, by decide +kernel⟩
abbrev st_turned_place : Stmt := top 21
abbrev n_turned_place : List Str := ["x", "y", "turn", "quarter"]
theorem sc_turned_place : FnScope n_turned_place ["x", "y", "turn"] (defScope st_turned_place) := ⟨rfl, rfl, rfl, by decide +kernel, rfl, by decide +kernel, by decide +kernel⟩
abbrev st_turned_in : Stmt := top 22
abbrev n_turned_in : List Str := ["board", "turn", "x", "y", "state"]
theorem sc_turned_in : FnScope n_turned_in ["board", "turn"] (defScope st_turned_in) := ⟨rfl, rfl, rfl, by decide +kernel, rfl, by decide +kernel, by decide +kernel⟩
abbrev st_box_in : Stmt := top 23
abbrev n_box_in : List Str := ["board", "rows", "cell"]
theorem sc_box_in : FnScope n_box_in ["board"] (defScope st_box_in) := ⟨rfl, rfl, rfl, by decide +kernel, rfl, by decide +kernel, by decide +kernel⟩
abbrev st_normal_in : Stmt := top 24
abbrev n_normal_in : List Str := ["board", "left", "top"]
theorem sc_normal_in : FnScope n_normal_in ["board"] (defScope st_normal_in) := ⟨rfl, rfl, rfl, by decide +kernel, rfl, by decide +kernel, by decide +kernel⟩
abbrev st_neighbours : Stmt := top 27
abbrev n_neighbours : List Str := ["cells", "found", "x", "y", "step", "more", "place"]
theorem sc_neighbours : FnScope n_neighbours ["cells"] (defScope st_neighbours) := ⟨rfl, rfl, rfl, by decide +kernel, rfl, by decide +kernel, by decide +kernel⟩
abbrev st_next_cells : Stmt := top 28
abbrev n_next_cells : List Str := ["rule", "cells", "births", "stays", "states", "counts", "found", "place", "state"]
theorem sc_next_cells : FnScope n_next_cells ["rule", "cells"] (defScope st_next_cells) := ⟨rfl, rfl, rfl, by decide +kernel, rfl, by decide +kernel, by decide +kernel⟩
abbrev st_need_small : Stmt := top 29
abbrev n_need_small : List Str := ["board"]
theorem sc_need_small : FnScope n_need_small ["board"] (defScope st_need_small) := ⟨rfl, rfl, rfl, by decide +kernel, rfl, by decide +kernel, by decide +kernel⟩
abbrev st_need_states : Stmt := top 30
abbrev n_need_states : List Str := ["rule", "board", "cell"]
theorem sc_need_states : FnScope n_need_states ["rule", "board"] (defScope st_need_states) := ⟨rfl, rfl, rfl, by decide +kernel, rfl, by decide +kernel, by decide +kernel⟩
abbrev st_step_in : Stmt := top 31
abbrev n_step_in : List Str := ["rule", "board", "found"]
theorem sc_step_in : FnScope n_step_in ["rule", "board"] (defScope st_step_in) := ⟨rfl, rfl, rfl, by decide +kernel, rfl, by decide +kernel, by decide +kernel⟩
abbrev st_is_beyond : Stmt := top 32
abbrev n_is_beyond : List Str := ["board", "rows", "cell"]
theorem sc_is_beyond : FnScope n_is_beyond ["board"] (defScope st_is_beyond) := ⟨rfl, rfl, rfl, by decide +kernel, rfl, by decide +kernel, by decide +kernel⟩
abbrev st_phases_in : Stmt := top 36
abbrev n_phases_in : List Str := ["rule", "board", "period", "found", "turn"]
theorem sc_phases_in : FnScope n_phases_in ["rule", "board", "period"] (defScope st_phases_in) := ⟨rfl, rfl, rfl, by decide +kernel, rfl, by decide +kernel, by decide +kernel⟩
abbrev st_is_piece_shape : Stmt := top 37
abbrev n_is_piece_shape : List Str := ["piece"]
theorem sc_is_piece_shape : FnScope n_is_piece_shape ["piece"] (defScope st_is_piece_shape) := ⟨rfl, rfl, rfl, by decide +kernel, rfl, by decide +kernel, by decide +kernel⟩
abbrev st_is_piece : Stmt := top 38
abbrev n_is_piece : List Str := ["rule", "piece", "last"]
theorem sc_is_piece : FnScope n_is_piece ["rule", "piece"] (defScope st_is_piece) := ⟨rfl, rfl, rfl, by decide +kernel, rfl, by decide +kernel, by decide +kernel⟩
abbrev st_need_piece : Stmt := top 39
abbrev n_need_piece : List Str := ["rule", "piece"]
theorem sc_need_piece : FnScope n_need_piece ["rule", "piece"] (defScope st_need_piece) := ⟨rfl, rfl, rfl, by decide +kernel, rfl, by decide +kernel, by decide +kernel⟩
abbrev st_round_in : Stmt := top 40
abbrev n_round_in : List Str := ["rule", "board", "most", "form", "where", "here", "turn", "other", "there"]
theorem sc_round_in : FnScope n_round_in ["rule", "board", "most"] (defScope st_round_in) := ⟨rfl, rfl, rfl, by decide +kernel, rfl, by decide +kernel, by decide +kernel⟩
abbrev st_form_in : Stmt := top 41
abbrev n_form_in : List Str := ["rule", "piece", "found", "board", "turn"]
theorem sc_form_in : FnScope n_form_in ["rule", "piece"] (defScope st_form_in) := ⟨rfl, rfl, rfl, by decide +kernel, rfl, by decide +kernel, by decide +kernel⟩
abbrev st_form_of : Stmt := top 42
abbrev n_form_of : List Str := ["rule", "piece"]
theorem sc_form_of : FnScope n_form_of ["rule", "piece"] (defScope st_form_of) := ⟨rfl, rfl, rfl, by decide +kernel, rfl, by decide +kernel, by decide +kernel⟩
abbrev st_need_box : Stmt := top 46
abbrev n_need_box : List Str := ["wide", "high", "most"]
theorem sc_need_box : FnScope n_need_box ["wide", "high", "most"] (defScope st_need_box) := ⟨rfl, rfl, rfl, by decide +kernel, rfl, by decide +kernel, by decide +kernel⟩
abbrev st_boards_in : Stmt := top 47
abbrev n_boards_in : List Str := ["wide", "high", "places", "found", "number", "cells", "board", "x", "y", "at", "place", "cell"]
theorem sc_boards_in : FnScope n_boards_in ["wide", "high"] (defScope st_boards_in) := ⟨rfl, rfl, rfl, by decide +kernel, rfl, by decide +kernel, by decide +kernel⟩
abbrev st_pieces_in_box : Stmt := top 48
abbrev n_pieces_in_box : List Str := ["rule", "wide", "high", "most", "found", "board", "told", "form"]
theorem sc_pieces_in_box : FnScope n_pieces_in_box ["rule", "wide", "high", "most"] (defScope st_pieces_in_box) := ⟨rfl, rfl, rfl, by decide +kernel, rfl, by decide +kernel, by decide +kernel⟩
abbrev st_stills_in_box : Stmt := top 49
abbrev n_stills_in_box : List Str := ["rule", "wide", "high", "board"]
theorem sc_stills_in_box : FnScope n_stills_in_box ["rule", "wide", "high"] (defScope st_stills_in_box) := ⟨rfl, rfl, rfl, by decide +kernel, rfl, by decide +kernel, by decide +kernel⟩
abbrev st_census : Stmt := top 50
abbrev n_census : List Str := ["rule", "pieces", "piece"]
theorem sc_census : FnScope n_census ["rule", "pieces"] (defScope st_census) := ⟨rfl, rfl, rfl, by decide +kernel, rfl, by decide +kernel, by decide +kernel⟩
abbrev st_census_in : Stmt := top 51
abbrev n_census_in : List Str := ["rule", "pieces", "found", "piece", "form"]
theorem sc_census_in : FnScope n_census_in ["rule", "pieces"] (defScope st_census_in) := ⟨rfl, rfl, rfl, by decide +kernel, rfl, by decide +kernel, by decide +kernel⟩
abbrev st__law_taken : Stmt := top 53
abbrev n__law_taken : List Str := ["_law_row", "_law_many", "_law_found", "_law_cell"]
theorem sc__law_taken : FnScope n__law_taken ["_law_row", "_law_many"] (defScope st__law_taken) := ⟨rfl, rfl, rfl, by decide +kernel, rfl, by decide +kernel, by decide +kernel⟩
abbrev st__law_pick : Stmt := top 54
abbrev n__law_pick : List Str := ["_law_row", "_law_things"]
theorem sc__law_pick : FnScope n__law_pick ["_law_row", "_law_things"] (defScope st__law_pick) := ⟨rfl, rfl, rfl, by decide +kernel, rfl, by decide +kernel, by decide +kernel⟩
abbrev st__law_some_rule : Stmt := top 55
abbrev n__law_some_rule : List Str := ["_law_row", "_law_way", "_law_births", "_law_stays", "_law_k"]
theorem sc__law_some_rule : FnScope n__law_some_rule ["_law_row"] (defScope st__law_some_rule) := ⟨rfl, rfl, rfl, by decide +kernel, rfl, by decide +kernel, by decide +kernel⟩
abbrev st__law_box : Stmt := top 56
abbrev n__law_box : List Str := ["_law_board", "_law_lines", "_law_rows", "_law_cell"]
theorem sc__law_box : FnScope n__law_box ["_law_board"] (defScope st__law_box) := ⟨rfl, rfl, rfl, by decide +kernel, rfl, by decide +kernel, by decide +kernel⟩
abbrev st__law_box_boards : Stmt := top 57
abbrev n__law_box_boards : List Str := ["_law_wide", "_law_high", "_law_places", "_law_found", "_law_x", "_law_number", "_law_board", "_law_y", "_law_k"]
theorem sc__law_box_boards : FnScope n__law_box_boards ["_law_wide", "_law_high"] (defScope st__law_box_boards) := ⟨rfl, rfl, rfl, by decide +kernel, rfl, by decide +kernel, by decide +kernel⟩
abbrev st__law_moved : Stmt := top 58
abbrev n__law_moved : List Str := ["_law_board", "_law_x", "_law_y", "_law_cell"]
theorem sc__law_moved : FnScope n__law_moved ["_law_board", "_law_x", "_law_y"] (defScope st__law_moved) := ⟨rfl, rfl, rfl, by decide +kernel, rfl, by decide +kernel, by decide +kernel⟩
abbrev st__law_normal : Stmt := top 59
abbrev n__law_normal : List Str := ["_law_board", "_law_ends"]
theorem sc__law_normal : FnScope n__law_normal ["_law_board"] (defScope st__law_normal) := ⟨rfl, rfl, rfl, by decide +kernel, rfl, by decide +kernel, by decide +kernel⟩
abbrev st__law_around : Stmt := top 60
abbrev n__law_around : List Str := ["_law_place", "_law_found", "_law_a", "_law_b"]
theorem sc__law_around : FnScope n__law_around ["_law_place"] (defScope st__law_around) := ⟨rfl, rfl, rfl, by decide +kernel, rfl, by decide +kernel, by decide +kernel⟩
abbrev st__law_step : Stmt := top 61
abbrev n__law_step : List Str := ["_law_rule", "_law_board", "_law_cells", "_law_places", "_law_found", "_law_cell", "_law_place", "_law_near", "_law_state", "_law_new", "_law_one"]
theorem sc__law_step : FnScope n__law_step ["_law_rule", "_law_board"] (defScope st__law_step) := ⟨rfl, rfl, rfl, by decide +kernel, rfl, by decide +kernel, by decide +kernel⟩
abbrev st__law_turned_piece : Stmt := top 62
abbrev n__law_turned_piece : List Str := ["_law_piece", "_law_turn", "_law_board", "_law_period", "_law_move", "_law_moves", "_law_quarter", "_law_cell"]
theorem sc__law_turned_piece : FnScope n__law_turned_piece ["_law_piece", "_law_turn"] (defScope st__law_turned_piece) := ⟨rfl, rfl, rfl, by decide +kernel, rfl, by decide +kernel, by decide +kernel⟩
abbrev st__law_alike : Stmt := top 63
abbrev n__law_alike : List Str := ["_law_found", "_law_due", "_law_k"]
theorem sc__law_alike : FnScope n__law_alike ["_law_found", "_law_due"] (defScope st__law_alike) := ⟨rfl, rfl, rfl, by decide +kernel, rfl, by decide +kernel, by decide +kernel⟩
abbrev st__law_kit : Stmt := top 64
abbrev n__law_kit : List Str := ["_law_ship", "_law_row", "_law_square", "_law_long"]
theorem sc__law_kit : FnScope n__law_kit [] (defScope st__law_kit) := ⟨rfl, rfl, rfl, by decide +kernel, rfl, by decide +kernel, by decide +kernel⟩
abbrev st__law_signed : Stmt := top 65
abbrev n__law_signed : List Str := ["_law_row", "_law_most"]
theorem sc__law_signed : FnScope n__law_signed ["_law_row", "_law_most"] (defScope st__law_signed) := ⟨rfl, rfl, rfl, by decide +kernel, rfl, by decide +kernel, by decide +kernel⟩
abbrev st__law_some_piece : Stmt := top 66
abbrev n__law_some_piece : List Str := ["_law_row", "_law_far", "_law_piece", "_law_many", "_law_board"]
theorem sc__law_some_piece : FnScope n__law_some_piece ["_law_row", "_law_far"] (defScope st__law_some_piece) := ⟨rfl, rfl, rfl, by decide +kernel, rfl, by decide +kernel, by decide +kernel⟩
abbrev st_law : Stmt := top 67
abbrev n_law : List Str := ["_law_script", "_law_row", "_law_rule", "_law_most", "_law_wide", "_law_high", "_law_stills", "_law_forms", "_law_board", "_law_here", "_law_told", "_law_start", "_law_moved_here", "_law_turn", "_law_all_forms", "_law_some", "_law_due", "_law_form", "_law_kit_here", "_law_counts", "_law_piece", "_law_k"]
theorem sc_law : FnScope n_law ["_law_script"] (defScope st_law) := ⟨rfl, rfl, rfl, by decide +kernel, rfl, by decide +kernel, by decide +kernel⟩
/-- what the top has written -/
structure Cs (K : PySem.W.Frag) (mg : Str → Option Value) : Prop where
  b_isinstance : mg "isinstance" = none
  b_len : mg "len" = none
  b_tuple : mg "tuple" = none
  b_list : mg "list" = none
  b_int : mg "int" = none
  b_bool : mg "bool" = none
  b_str : mg "str" = none
  b_sorted : mg "sorted" = none
  b_set : mg "set" = none
  b_dict : mg "dict" = none
  b_range : mg "range" = none
  b_enumerate : mg "enumerate" = none
  b_min : mg "min" = none
  b_max : mg "max" = none
  c_MOST_STATES : ∃ t, mg "MOST_STATES" = some (.int 6 t)
  c_FAR : ∃ t, mg "FAR" = some (.int (10 ^ 60) t)
  c_MOST_CELLS : ∃ t, mg "MOST_CELLS" = some (.int 3000 t)
  c_MOST_PERIOD : ∃ t, mg "MOST_PERIOD" = some (.int 240 t)
  c_MOST_SIZE : ∃ t, mg "MOST_SIZE" = some (.int 300 t)
  c_MOST_BOX : ∃ t, mg "MOST_BOX" = some (.int 12 t)
  c_MOST_ROUND : ∃ t, mg "MOST_ROUND" = some (.int 12 t)
  t_is_in : Tx K mg "is_in" st_is_in ["value", "least", "most"]
  t_are_counts : Tx K mg "are_counts" st_are_counts ["value", "least"]
  t_is_rule : Tx K mg "is_rule" st_is_rule ["rule"]
  t_need_rule : Tx K mg "need_rule" st_need_rule ["rule"]
  t_is_move : Tx K mg "is_move" st_is_move ["value"]
  t_is_cell : Tx K mg "is_cell" st_is_cell ["cell"]
  t_need_board : Tx K mg "need_board" st_need_board ["board"]
  t_board_of : Tx K mg "board_of" st_board_of ["cells"]
  t_cells_of : Tx K mg "cells_of" st_cells_of ["board"]
  t_shifted_in : Tx K mg "shifted_in" st_shifted_in ["board", "move"]
  t_turned_place : Tx K mg "turned_place" st_turned_place ["x", "y", "turn"]
  t_turned_in : Tx K mg "turned_in" st_turned_in ["board", "turn"]
  t_box_in : Tx K mg "box_in" st_box_in ["board"]
  t_normal_in : Tx K mg "normal_in" st_normal_in ["board"]
  t_neighbours : Tx K mg "neighbours" st_neighbours ["cells"]
  t_next_cells : Tx K mg "next_cells" st_next_cells ["rule", "cells"]
  t_need_small : Tx K mg "need_small" st_need_small ["board"]
  t_need_states : Tx K mg "need_states" st_need_states ["rule", "board"]
  t_step_in : Tx K mg "step_in" st_step_in ["rule", "board"]
  t_is_beyond : Tx K mg "is_beyond" st_is_beyond ["board"]
  t_phases_in : Tx K mg "phases_in" st_phases_in ["rule", "board", "period"]
  t_is_piece_shape : Tx K mg "is_piece_shape" st_is_piece_shape ["piece"]
  t_is_piece : Tx K mg "is_piece" st_is_piece ["rule", "piece"]
  t_need_piece : Tx K mg "need_piece" st_need_piece ["rule", "piece"]
  t_round_in : Tx K mg "round_in" st_round_in ["rule", "board", "most"]
  t_form_in : Tx K mg "form_in" st_form_in ["rule", "piece"]
  t_form_of : Tx K mg "form_of" st_form_of ["rule", "piece"]
  t_need_box : Tx K mg "need_box" st_need_box ["wide", "high", "most"]
  t_boards_in : Tx K mg "boards_in" st_boards_in ["wide", "high"]
  t_pieces_in_box : Tx K mg "pieces_in_box" st_pieces_in_box ["rule", "wide", "high", "most"]
  t_stills_in_box : Tx K mg "stills_in_box" st_stills_in_box ["rule", "wide", "high"]
  t_census : Tx K mg "census" st_census ["rule", "pieces"]
  t_census_in : Tx K mg "census_in" st_census_in ["rule", "pieces"]
  t__law_taken : Tx K mg "_law_taken" st__law_taken ["_law_row", "_law_many"]
  t__law_pick : Tx K mg "_law_pick" st__law_pick ["_law_row", "_law_things"]
  t__law_some_rule : Tx K mg "_law_some_rule" st__law_some_rule ["_law_row"]
  t__law_box : Tx K mg "_law_box" st__law_box ["_law_board"]
  t__law_box_boards : Tx K mg "_law_box_boards" st__law_box_boards ["_law_wide", "_law_high"]
  t__law_moved : Tx K mg "_law_moved" st__law_moved ["_law_board", "_law_x", "_law_y"]
  t__law_normal : Tx K mg "_law_normal" st__law_normal ["_law_board"]
  t__law_around : Tx K mg "_law_around" st__law_around ["_law_place"]
  t__law_step : Tx K mg "_law_step" st__law_step ["_law_rule", "_law_board"]
  t__law_turned_piece : Tx K mg "_law_turned_piece" st__law_turned_piece ["_law_piece", "_law_turn"]
  t__law_alike : Tx K mg "_law_alike" st__law_alike ["_law_found", "_law_due"]
  t__law_kit : Tx K mg "_law_kit" st__law_kit []
  t__law_signed : Tx K mg "_law_signed" st__law_signed ["_law_row", "_law_most"]
  t__law_some_piece : Tx K mg "_law_some_piece" st__law_some_piece ["_law_row", "_law_far"]
  t_law : Tx K mg "law" st_law ["_law_script"]
end VL

set_option Elab.async false
set_option linter.all false
set_option maxRecDepth 100000
set_option maxHeartbeats 1000000
/-! printed by gen.py: the walks of the plain defs. -/
namespace VL
open PySem L2 PyProof.Rows
section
variable {P : Program} {w : World} {K : PySem.W.Frag} {mg : Str → Option Value} {base : Heap}

/-! is_in -/
def g_is_in : Sh → Option Res := (fRet [] [] (fU (fAnd (fB (f1 (isiU "int") (fVar 0))) (fB (fU (fAnd (fB (fU (fNot (fB (f1 (isiU "bool") (fVar 0)))))) (fB (fChain leU leU (fVar 1) (fVar 0) (fVar 2)))))))))
def F_is_in : List U → Option U := runG 3 g_is_in
theorem d_is_in (C : Cs K mg) : DV P w K mg base 1 "is_in" ["value", "least", "most"] F_is_in := dv_of (O := []) C.t_is_in sc_is_in (by decide) fun f cdv A outer s H E hr => by
  have hu := hr.units
  exact (svs_one (sv_ret (ev_and (ev_isi rfl C.b_isinstance (ev_var 0 (pv 0)) rfl C.b_int (T := "") (tn := "int") (by decide +kernel)) (ev_and (ev_not (ev_isi rfl C.b_isinstance (ev_var 0 (pv 0)) rfl C.b_bool (T := "") (tn := "bool") (by decide +kernel))) (ev_one (ev_chain (ov_le hu) (ov_le hu) (ev_var 1 (pv 1)) (ev_var 0 (pv 0)) (ev_var 2 (pv 2))))))))

/-! board_of -/
def g_board_of : Sh → Option Res := (fRet [] [] (fCall tupU (fCons (fLc (fItems (fSK (fVar 0))) (bName 1) fYes (f2 addU (fVar 1) (fTup (fCons (f2 ixU (fVar 0) (fVar 1)) fNil))) [1]) fNil)))
def F_board_of : List U → Option U := runG 2 g_board_of
theorem d_board_of (C : Cs K mg) : DV P w K mg base 1 "board_of" ["cells"] F_board_of := dv_of (O := []) C.t_board_of sc_board_of (by decide) fun f cdv A outer s H E hr => by
  have hu := hr.units
  exact (svs_one (sv_ret (ev_callTy ca_tuple rfl C.b_tuple (by decide +kernel) (av_cons (ev_lcW rfl sc_board_of.nd (iv_seq (ev_sortedKeys rfl hu rfl C.b_sorted (ev_var 0 (pv 0)))) (blkOk_by (N := n_board_of) (sc := defScope st_board_of) (own := [("place", 1)]) (by decide +kernel)) (fun _ _ _ _ _ => (gv_name 1 sc_board_of.nd rfl (.inl rfl))) (fun _ _ _ _ _ => tsv_nil) (fun _ _ _ _ _ => (ev_op ov_add (ev_var 1 (pv 1)) (ev_tup (av_cons (ev_ix hu (ev_var 0 (pv 0)) (ev_var 1 (pv 1))) av_nil)))) (by decide)) av_nil))))

/-! cells_of -/
def g_cells_of : Sh → Option Res := (fRet [] [] (fDc (fItems (fVar 0)) (bName 1) fYes (f2 cutU (fVar 1) (fC (.im (.num 2)))) (f2 ixU (fVar 1) (fC (.im (.num 2)))) [1]))
def F_cells_of : List U → Option U := runG 2 g_cells_of
theorem d_cells_of (C : Cs K mg) : DV P w K mg base 1 "cells_of" ["board"] F_cells_of := dv_of (O := []) C.t_cells_of sc_cells_of (by decide) fun f cdv A outer s H E hr => by
  have hu := hr.units
  exact (svs_one (sv_ret (ev_dcW hu rfl sc_cells_of.nd (iv_seq (ev_var 0 (pv 0))) (blkOk_by (N := n_cells_of) (sc := defScope st_cells_of) (own := [("cell", 1)]) (by decide +kernel)) (fun _ _ _ _ _ => (gv_name 1 sc_cells_of.nd rfl (.inl rfl))) (fun _ _ _ _ _ => tsv_nil) (fun _ _ _ _ _ => (ev_cut (ev_var 1 (pv 1)) ev_int)) (fun _ _ _ _ _ => (ev_ix hu (ev_var 1 (pv 1)) ev_int)) (by decide))))

/-! shifted_in -/
def g_shifted_in : Sh → Option Res := (fRet [] [] (fCall tupU (fCons (fLc (fItems (fVar 0)) (bTup [2, 3, 4]) fYes (fTup (fCons (f2 addU (fVar 2) (f2 ixU (fVar 1) (fC (.im (.num 0))))) (fCons (f2 addU (fVar 3) (f2 ixU (fVar 1) (fC (.im (.num 1))))) (fCons (fVar 4) fNil)))) [2, 3, 4]) fNil)))
def F_shifted_in : List U → Option U := runG 5 g_shifted_in
theorem d_shifted_in (C : Cs K mg) : DV P w K mg base 1 "shifted_in" ["board", "move"] F_shifted_in := dv_of (O := []) C.t_shifted_in sc_shifted_in (by decide) fun f cdv A outer s H E hr => by
  have hu := hr.units
  exact (svs_one (sv_ret (ev_callTy ca_tuple rfl C.b_tuple (by decide +kernel) (av_cons (ev_lcW rfl sc_shifted_in.nd (iv_seq (ev_var 0 (pv 0))) (blkOk_by (N := n_shifted_in) (sc := defScope st_shifted_in) (own := [("x", 2), ("y", 3), ("state", 4)]) (by decide +kernel)) (fun _ _ _ _ _ => (gv_tup rfl (tgs_cons (i := 2) sc_shifted_in.nd rfl (.inl rfl) (tgs_cons (i := 3) sc_shifted_in.nd rfl (.inl rfl) (tgs_cons (i := 4) sc_shifted_in.nd rfl (.inl rfl) tgs_nil))))) (fun _ _ _ _ _ => tsv_nil) (fun _ _ _ _ _ => (ev_tup (av_cons (ev_op ov_add (ev_var 2 (pv 2)) (ev_ix hu (ev_var 1 (pv 1)) ev_int)) (av_cons (ev_op ov_add (ev_var 3 (pv 3)) (ev_ix hu (ev_var 1 (pv 1)) ev_int)) (av_cons (ev_var 4 (pv 4)) av_nil))))) (by decide)) av_nil))))

/-! turned_place -/
def g_turned_place : Sh → Option Res := (fSeq (fIfS (fB (f2 geU (fVar 2) (fC (.im (.num 4))))) (fSet 0 [] (f1 negU (fVar 0))) fNext)
    (fSeq (fFor (fRng1 (fCons (f2 modU (fVar 2) (fC (.im (.num 4)))) fNil)) (bName 3) (fPar [0, 1] (fConsF [] (f1 negU (fVar 1)) (fConsF [0] (fVar 0) fNil))))
    (fRet [] [] (fTup (fCons (fVar 0) (fCons (fVar 1) fNil))))))
def F_turned_place : List U → Option U := runG 4 g_turned_place
theorem d_turned_place (C : Cs K mg) : DV P w K mg base 1 "turned_place" ["x", "y", "turn"] F_turned_place := dv_of (O := []) C.t_turned_place sc_turned_place (by decide) fun f cdv A outer s H E hr => by
  have hu := hr.units
  exact (svs_cons (sv_if (tv_cmp (ov_ge hu) (ev_var 2 (pv 2)) ev_int (nomark _)) (svs_one (sv_set 0 sc_turned_place.nd rfl (.inl rfl) (ev_un ov_neg (ev_var 0 (pv 0))))) svs_nil)
    (svs_cons (sv_for PassesOwn.never rfl (iv_rng1 rfl C.b_range (av_cons (ev_op ov_mod (ev_var 2 (pv 2)) ev_int) av_nil)) (gv_name 3 sc_turned_place.nd rfl (.inl rfl)) (svs_one (sv_par (i := 0) (j := 1) rfl sc_turned_place.nd rfl rfl (by decide) rfl rfl (fv_cons (ev_un ov_neg (ev_var 1 (pv 1))) (fv_cons (ev_var 0 (pv 0)) fv_nil)) (by rfl))) (by decide))
    (svs_one (sv_ret (ev_tup (av_cons (ev_var 0 (pv 0)) (av_cons (ev_var 1 (pv 1)) av_nil)))))))

/-! box_in -/
def g_box_in : Sh → Option Res := (fSeq (fIfS (fB (f2 eqU (fVar 0) (fTup fNil))) (fRet [] [] (fC (.im .none))) fNext)
    (fSeq (fSet 1 [] (fLc (fItems (fVar 0)) (bName 2) fYes (f2 ixU (fVar 2) (fC (.im (.num 1)))) [2]))
    (fRet [] [] (fTup (fCons (f2 ixU (f2 ixU (fVar 0) (fC (.im (.num 0)))) (fC (.im (.num 0)))) (fCons (fCall minU (fCons (fVar 1) fNil)) (fCons (f2 ixU (f2 ixU (fVar 0) (f1 negU (fC (.im (.num 1))))) (fC (.im (.num 0)))) (fCons (fCall maxU (fCons (fVar 1) fNil)) fNil))))))))
def F_box_in : List U → Option U := runG 3 g_box_in
theorem d_box_in (C : Cs K mg) : DV P w K mg base 1 "box_in" ["board"] F_box_in := dv_of (O := []) C.t_box_in sc_box_in (by decide) fun f cdv A outer s H E hr => by
  have hu := hr.units
  exact (svs_cons (sv_if (tv_cmp (ov_eq hu) (ev_var 0 (pv 0)) (ev_tup av_nil) (nomark _)) (svs_one (sv_ret ev_non)) svs_nil)
    (svs_cons (sv_setLcW (i := 1) rfl sc_box_in.nd rfl rfl (sw_true rfl rfl rfl (by rfl)) (iv_seq (ev_var 0 (pv 0))) (blkOk_by (N := n_box_in) (sc := defScope st_box_in) (own := [("cell", 2)]) (by decide +kernel)) (fun _ _ _ _ _ => (gv_name 2 sc_box_in.nd rfl (.inl rfl))) (fun _ _ _ _ _ => tsv_nil) (fun _ _ _ _ _ => (ev_ix hu (ev_var 2 (pv 2)) ev_int)) (by decide))
    (svs_one (sv_ret (ev_tup (av_cons (ev_ix hu (ev_ix hu (ev_var 0 (pv 0)) ev_int) ev_int) (av_cons (ev_callB (ca_min rfl hu) rfl C.b_min (by decide +kernel) (av_cons (ev_var 1 (pv 1)) av_nil)) (av_cons (ev_ix hu (ev_ix hu (ev_var 0 (pv 0)) (ev_un ov_neg ev_int)) ev_int) (av_cons (ev_callB (ca_max rfl hu) rfl C.b_max (by decide +kernel) (av_cons (ev_var 1 (pv 1)) av_nil)) av_nil)))))))))

/-! neighbours -/
def g_neighbours : Sh → Option Res := (fSeq (fSet 1 [] (fC (.dc [])))
    (fSeq (fFor (fKeysI (fVar 0)) (bTup [2, 3]) (fIfS (fB (f2 eqU (f2 ixU (fVar 0) (fTup (fCons (fVar 2) (fCons (fVar 3) fNil)))) (fC (.im (.num 1))))) (fFor (fItems (fTup (fCons (f1 negU (fC (.im (.num 1)))) (fCons (fC (.im (.num 0))) (fCons (fC (.im (.num 1))) fNil))))) (bName 4) (fFor (fItems (fTup (fCons (f1 negU (fC (.im (.num 1)))) (fCons (fC (.im (.num 0))) (fCons (fC (.im (.num 1))) fNil))))) (bName 5) (fIfS (fB (f2 neU (fTup (fCons (fVar 4) (fCons (fVar 5) fNil))) (fTup (fCons (fC (.im (.num 0))) (fCons (fC (.im (.num 0))) fNil))))) (fSeq (fSet 6 [] (fTup (fCons (f2 addU (fVar 2) (fVar 4)) (fCons (f2 addU (fVar 3) (fVar 5)) fNil))))
    (fSto 1 (f2 addU (f3 getU (fVar 1) (fVar 6) (fC (.im (.num 0)))) (fC (.im (.num 1)))) (fVar 6))) fNext))) fNext))
    (fRet [1] [1] (fVar 1))))
def F_neighbours : List U → Option U := runG 7 g_neighbours
theorem d_neighbours (C : Cs K mg) : DV P w K mg base 1 "neighbours" ["cells"] F_neighbours := dv_of (O := [1]) C.t_neighbours sc_neighbours (by decide) fun f cdv A outer s H E hr => by
  have hu := hr.units
  exact (svs_cons (sv_set 1 sc_neighbours.nd rfl (.inl rfl) ev_dnew)
    (svs_cons (sv_for PassesOwn.never rfl (iv_keys (ev_var 0 (pv 0))) (gv_tup rfl (tgs_cons (i := 2) sc_neighbours.nd rfl (.inl rfl) (tgs_cons (i := 3) sc_neighbours.nd rfl (.inl rfl) tgs_nil))) (svs_one (sv_if (tv_cmp (ov_eq hu) (ev_ix hu (ev_var 0 (pv 0)) (ev_tup (av_cons (ev_var 2 (pv 2)) (av_cons (ev_var 3 (pv 3)) av_nil)))) ev_int (nomark _)) (svs_one (sv_for PassesOwn.never rfl (iv_seq (ev_tup (av_cons (ev_un ov_neg ev_int) (av_cons ev_int (av_cons ev_int av_nil))))) (gv_name 4 sc_neighbours.nd rfl (.inl rfl)) (svs_one (sv_for PassesOwn.never rfl (iv_seq (ev_tup (av_cons (ev_un ov_neg ev_int) (av_cons ev_int (av_cons ev_int av_nil))))) (gv_name 5 sc_neighbours.nd rfl (.inl rfl)) (svs_one (sv_if (tv_cmp (ov_ne hu) (ev_tup (av_cons (ev_var 4 (pv 4)) (av_cons (ev_var 5 (pv 5)) av_nil))) (ev_tup (av_cons ev_int (av_cons ev_int av_nil))) (nomark _)) (svs_cons (sv_set 6 sc_neighbours.nd rfl (.inl rfl) (ev_tup (av_cons (ev_op ov_add (ev_var 2 (pv 2)) (ev_var 4 (pv 4))) (av_cons (ev_op ov_add (ev_var 3 (pv 3)) (ev_var 5 (pv 5))) av_nil))))
    (svs_one (sv_sto (i := 1) hu (by decide) (pv 1) (ev_var 6 (pv 6)) (ev_op ov_add (ev_get2 hu (ev_var 1 (pv 1)) (ev_var 6 (pv 6)) ev_int ⟨rfl, rfl, rfl, rfl⟩) ev_int)))) svs_nil)) (by decide))) (by decide))) svs_nil)) (by decide))
    (svs_one (sv_ret (ev_var 1 (pv 1))))))

/-! need_small -/
def g_need_small : Sh → Option Res := (fIfS (fB (f2 gtU (fCall lenU (fCons (fVar 0) fNil)) (fC (.im (.num 3000))))) (fun _ => none) fNext)
def F_need_small : List U → Option U := runG 1 g_need_small
theorem d_need_small (C : Cs K mg) : DV P w K mg base 1 "need_small" ["board"] F_need_small := dv_of (O := []) C.t_need_small sc_need_small (by decide) fun f cdv A outer s H E hr => by
  have hu := hr.units
  exact (svs_one (sv_if (tv_cmp (ov_gt hu) (ev_callB ca_len rfl C.b_len (by decide +kernel) (av_cons (ev_var 0 (pv 0)) av_nil)) (ev_glob rfl C.c_MOST_CELLS) (nomark _)) (svs_one sv_never) svs_nil))

/-! need_states -/
def g_need_states : Sh → Option Res := (fRet [] [] (f2 eqU (fLc (fItems (fVar 1)) (bName 2) (fB (f2 geU (f2 ixU (fVar 2) (fC (.im (.num 2)))) (f2 ixU (fVar 0) (fC (.im (.num 2)))))) (fVar 2) [2]) (fLst fNil)))
def F_need_states : List U → Option U := runG 3 g_need_states
theorem d_need_states (C : Cs K mg) : DV P w K mg base 1 "need_states" ["rule", "board"] F_need_states := dv_of (O := []) C.t_need_states sc_need_states (by decide) fun f cdv A outer s H E hr => by
  have hu := hr.units
  exact (svs_one (sv_ret (ev_cmp (ov_eq hu) (ev_lcW rfl sc_need_states.nd (iv_seq (ev_var 1 (pv 1))) (blkOk_by (N := n_need_states) (sc := defScope st_need_states) (own := [("cell", 2)]) (by decide +kernel)) (fun _ _ _ _ _ => (gv_name 2 sc_need_states.nd rfl (.inl rfl))) (fun _ _ _ _ _ => (tsv_one (tv_cmp (ov_ge hu) (ev_ix hu (ev_var 2 (pv 2)) ev_int) (ev_ix hu (ev_var 0 (pv 0)) ev_int) (nomark _)))) (fun _ _ _ _ _ => (ev_var 2 (pv 2))) (by decide)) (ev_lst av_nil) (nomark _))))

/-! is_beyond -/
def g_is_beyond : Sh → Option Res := (fSeq (fSet 1 [] (fLc (fItems (fVar 0)) (bName 2) fYes (f2 ixU (fVar 2) (fC (.im (.num 1)))) [2]))
    (fRet [] [] (fU (fOr (fB (f2 ltU (f2 ixU (f2 ixU (fVar 0) (fC (.im (.num 0)))) (fC (.im (.num 0)))) (f1 negU (fC (.im (.num (10 ^ 60))))))) (fB (fU (fOr (fB (f2 gtU (f2 ixU (f2 ixU (fVar 0) (f1 negU (fC (.im (.num 1))))) (fC (.im (.num 0)))) (fC (.im (.num (10 ^ 60)))))) (fB (fU (fOr (fB (f2 ltU (fCall minU (fCons (fVar 1) fNil)) (f1 negU (fC (.im (.num (10 ^ 60))))))) (fB (f2 gtU (fCall maxU (fCons (fVar 1) fNil)) (fC (.im (.num (10 ^ 60))))))))))))))))
def F_is_beyond : List U → Option U := runG 3 g_is_beyond
theorem d_is_beyond (C : Cs K mg) : DV P w K mg base 1 "is_beyond" ["board"] F_is_beyond := dv_of (O := []) C.t_is_beyond sc_is_beyond (by decide) fun f cdv A outer s H E hr => by
  have hu := hr.units
  exact (svs_cons (sv_setLcW (i := 1) rfl sc_is_beyond.nd rfl rfl (sw_true rfl rfl rfl (by rfl)) (iv_seq (ev_var 0 (pv 0))) (blkOk_by (N := n_is_beyond) (sc := defScope st_is_beyond) (own := [("cell", 2)]) (by decide +kernel)) (fun _ _ _ _ _ => (gv_name 2 sc_is_beyond.nd rfl (.inl rfl))) (fun _ _ _ _ _ => tsv_nil) (fun _ _ _ _ _ => (ev_ix hu (ev_var 2 (pv 2)) ev_int)) (by decide))
    (svs_one (sv_ret (ev_or (ev_cmp (ov_lt hu) (ev_ix hu (ev_ix hu (ev_var 0 (pv 0)) ev_int) ev_int) (ev_un ov_neg (ev_glob rfl C.c_FAR)) (nomark _)) (ev_or (ev_cmp (ov_gt hu) (ev_ix hu (ev_ix hu (ev_var 0 (pv 0)) (ev_un ov_neg ev_int)) ev_int) (ev_glob rfl C.c_FAR) (nomark _)) (ev_or (ev_cmp (ov_lt hu) (ev_callB (ca_min rfl hu) rfl C.b_min (by decide +kernel) (av_cons (ev_var 1 (pv 1)) av_nil)) (ev_un ov_neg (ev_glob rfl C.c_FAR)) (nomark _)) (ev_one (ev_cmp (ov_gt hu) (ev_callB (ca_max rfl hu) rfl C.b_max (by decide +kernel) (av_cons (ev_var 1 (pv 1)) av_nil)) (ev_glob rfl C.c_FAR) (nomark _)))))))))

/-! _law_box -/
def g__law_box : Sh → Option Res := (fSeq (fIfS (fB (f2 eqU (fVar 0) (fTup fNil))) (fRet [] [] (fC (.im .none))) fNext)
    (fSeq (fPar [1, 2] (fConsF [] (fLc (fItems (fVar 0)) (bName 3) fYes (f2 ixU (fVar 3) (fC (.im (.num 0)))) [3]) (fConsF [] (fLc (fItems (fVar 0)) (bName 3) fYes (f2 ixU (fVar 3) (fC (.im (.num 1)))) [3]) fNil)))
    (fRet [] [] (fTup (fCons (fCall minU (fCons (fVar 1) fNil)) (fCons (fCall minU (fCons (fVar 2) fNil)) (fCons (fCall maxU (fCons (fVar 1) fNil)) (fCons (fCall maxU (fCons (fVar 2) fNil)) fNil))))))))
def F__law_box : List U → Option U := runG 4 g__law_box
theorem d__law_box (C : Cs K mg) : DV P w K mg base 1 "_law_box" ["_law_board"] F__law_box := dv_of (O := []) C.t__law_box sc__law_box (by decide) fun f cdv A outer s H E hr => by
  have hu := hr.units
  exact (svs_cons (sv_if (tv_cmp (ov_eq hu) (ev_var 0 (pv 0)) (ev_tup av_nil) (nomark _)) (svs_one (sv_ret ev_non)) svs_nil)
    (svs_cons (sv_par (i := 1) (j := 2) rfl sc__law_box.nd rfl rfl (by decide) rfl rfl (fv_cons (ev_lcW rfl sc__law_box.nd (iv_seq (ev_var 0 (pv 0))) (blkOk_by (N := n__law_box) (sc := defScope st__law_box) (own := [("_law_cell", 3)]) (by decide +kernel)) (fun _ _ _ _ _ => (gv_name 3 sc__law_box.nd rfl (.inl rfl))) (fun _ _ _ _ _ => tsv_nil) (fun _ _ _ _ _ => (ev_ix hu (ev_var 3 (pv 3)) ev_int)) (by decide)) (fv_cons (ev_lcW rfl sc__law_box.nd (iv_seq (ev_var 0 (pv 0))) (blkOk_by (N := n__law_box) (sc := defScope st__law_box) (own := [("_law_cell", 3)]) (by decide +kernel)) (fun _ _ _ _ _ => (gv_name 3 sc__law_box.nd rfl (.inl rfl))) (fun _ _ _ _ _ => tsv_nil) (fun _ _ _ _ _ => (ev_ix hu (ev_var 3 (pv 3)) ev_int)) (by decide)) fv_nil)) (by rfl))
    (svs_one (sv_ret (ev_tup (av_cons (ev_callB (ca_min rfl hu) rfl C.b_min (by decide +kernel) (av_cons (ev_var 1 (pv 1)) av_nil)) (av_cons (ev_callB (ca_min rfl hu) rfl C.b_min (by decide +kernel) (av_cons (ev_var 2 (pv 2)) av_nil)) (av_cons (ev_callB (ca_max rfl hu) rfl C.b_max (by decide +kernel) (av_cons (ev_var 1 (pv 1)) av_nil)) (av_cons (ev_callB (ca_max rfl hu) rfl C.b_max (by decide +kernel) (av_cons (ev_var 2 (pv 2)) av_nil)) av_nil)))))))))

/-! _law_moved -/
def g__law_moved : Sh → Option Res := (fRet [] [] (fCall tupU (fCons (fLc (fItems (fVar 0)) (bName 3) fYes (fTup (fCons (f2 addU (f2 ixU (fVar 3) (fC (.im (.num 0)))) (fVar 1)) (fCons (f2 addU (f2 ixU (fVar 3) (fC (.im (.num 1)))) (fVar 2)) (fCons (f2 ixU (fVar 3) (fC (.im (.num 2)))) fNil)))) [3]) fNil)))
def F__law_moved : List U → Option U := runG 4 g__law_moved
theorem d__law_moved (C : Cs K mg) : DV P w K mg base 1 "_law_moved" ["_law_board", "_law_x", "_law_y"] F__law_moved := dv_of (O := []) C.t__law_moved sc__law_moved (by decide) fun f cdv A outer s H E hr => by
  have hu := hr.units
  exact (svs_one (sv_ret (ev_callTy ca_tuple rfl C.b_tuple (by decide +kernel) (av_cons (ev_lcW rfl sc__law_moved.nd (iv_seq (ev_var 0 (pv 0))) (blkOk_by (N := n__law_moved) (sc := defScope st__law_moved) (own := [("_law_cell", 3)]) (by decide +kernel)) (fun _ _ _ _ _ => (gv_name 3 sc__law_moved.nd rfl (.inl rfl))) (fun _ _ _ _ _ => tsv_nil) (fun _ _ _ _ _ => (ev_tup (av_cons (ev_op ov_add (ev_ix hu (ev_var 3 (pv 3)) ev_int) (ev_var 1 (pv 1))) (av_cons (ev_op ov_add (ev_ix hu (ev_var 3 (pv 3)) ev_int) (ev_var 2 (pv 2))) (av_cons (ev_ix hu (ev_var 3 (pv 3)) ev_int) av_nil))))) (by decide)) av_nil))))

/-! _law_around -/
def g__law_around : Sh → Option Res := (fSeq (fSet 1 [] (fLst fNil))
    (fSeq (fFor (fItems (fLst (fCons (f1 negU (fC (.im (.num 1)))) (fCons (fC (.im (.num 0))) (fCons (fC (.im (.num 1))) fNil))))) (bName 2) (fFor (fItems (fLst (fCons (f1 negU (fC (.im (.num 1)))) (fCons (fC (.im (.num 0))) (fCons (fC (.im (.num 1))) fNil))))) (bName 3) (fIfS (fOr (fB (f2 neU (fVar 2) (fC (.im (.num 0))))) (fB (f2 neU (fVar 3) (fC (.im (.num 0)))))) (fApp 1 (fTup (fCons (f2 addU (f2 ixU (fVar 0) (fC (.im (.num 0)))) (fVar 2)) (fCons (f2 addU (f2 ixU (fVar 0) (fC (.im (.num 1)))) (fVar 3)) fNil)))) fNext)))
    (fRet [1] [1] (fVar 1))))
def F__law_around : List U → Option U := runG 4 g__law_around
theorem d__law_around (C : Cs K mg) : DV P w K mg base 1 "_law_around" ["_law_place"] F__law_around := dv_of (O := [1]) C.t__law_around sc__law_around (by decide) fun f cdv A outer s H E hr => by
  have hu := hr.units
  exact (svs_cons (sv_set 1 sc__law_around.nd rfl (.inl rfl) (ev_lst av_nil))
    (svs_cons (sv_for PassesOwn.never rfl (iv_seq (ev_lst (av_cons (ev_un ov_neg ev_int) (av_cons ev_int (av_cons ev_int av_nil))))) (gv_name 2 sc__law_around.nd rfl (.inl rfl)) (svs_one (sv_for PassesOwn.never rfl (iv_seq (ev_lst (av_cons (ev_un ov_neg ev_int) (av_cons ev_int (av_cons ev_int av_nil))))) (gv_name 3 sc__law_around.nd rfl (.inl rfl)) (svs_one (sv_if (TW.tv (tw_or (tv_cmp (ov_ne hu) (ev_var 2 (pv 2)) ev_int (nomark _)) (tw_or1 (tv_cmp (ov_ne hu) (ev_var 3 (pv 3)) ev_int (nomark _))))) (svs_one (sv_app (i := 1) (by decide) (pv 1) (ev_tup (av_cons (ev_op ov_add (ev_ix hu (ev_var 0 (pv 0)) ev_int) (ev_var 2 (pv 2))) (av_cons (ev_op ov_add (ev_ix hu (ev_var 0 (pv 0)) ev_int) (ev_var 3 (pv 3))) av_nil))))) svs_nil)) (by decide))) (by decide))
    (svs_one (sv_ret (ev_var 1 (pv 1))))))

/-! _law_turned_piece -/
def g__law_turned_piece : Sh → Option Res := (fSeq (fUnp [2, 3, 4] (fVar 0))
    (fSeq (fSet 5 ([] ++ [4]) (fIf (fB (f2 geU (fVar 1) (fC (.im (.num 4))))) (fTup (fCons (f2 subU (fC (.im (.num 0))) (f2 ixU (fVar 4) (fC (.im (.num 0))))) (fCons (f2 ixU (fVar 4) (fC (.im (.num 1)))) fNil))) (fVar 4)))
    (fSeq (fSet 2 ([] ++ [2]) (fIf (fB (f2 geU (fVar 1) (fC (.im (.num 4))))) (fCall tupU (fCons (fLc (fItems (fVar 2)) (bName 7) fYes (fTup (fCons (f2 subU (fC (.im (.num 0))) (f2 ixU (fVar 7) (fC (.im (.num 0))))) (fCons (f2 ixU (fVar 7) (fC (.im (.num 1)))) (fCons (f2 ixU (fVar 7) (fC (.im (.num 2)))) fNil)))) [7]) fNil)) (fVar 2)))
    (fSeq (fFor (fRng1 (fCons (f2 modU (fCall intU (fCons (fVar 1) fNil)) (fC (.im (.num 4)))) fNil)) (bName 6) (fSeq (fSet 2 [] (fCall tupU (fCons (fLc (fItems (fVar 2)) (bName 7) fYes (fTup (fCons (f2 subU (fC (.im (.num 0))) (f2 ixU (fVar 7) (fC (.im (.num 1))))) (fCons (f2 ixU (fVar 7) (fC (.im (.num 0)))) (fCons (f2 ixU (fVar 7) (fC (.im (.num 2)))) fNil)))) [7]) fNil)))
    (fSet 5 [] (fTup (fCons (f2 subU (fC (.im (.num 0))) (f2 ixU (fVar 5) (fC (.im (.num 1))))) (fCons (f2 ixU (fVar 5) (fC (.im (.num 0)))) fNil))))))
    (fRet [] [] (fTup (fCons (fCall tupU (fCons (fCall srtTU (fCons (fVar 2) fNil)) fNil)) (fCons (fVar 3) (fCons (fVar 5) fNil)))))))))
def F__law_turned_piece : List U → Option U := runG 8 g__law_turned_piece
theorem d__law_turned_piece (C : Cs K mg) : DV P w K mg base 1 "_law_turned_piece" ["_law_piece", "_law_turn"] F__law_turned_piece := dv_of (O := []) C.t__law_turned_piece sc__law_turned_piece (by decide) fun f cdv A outer s H E hr => by
  have hu := hr.units
  exact (svs_cons (sv_unp rfl (tgs_cons (i := 2) sc__law_turned_piece.nd rfl (.inl rfl) (tgs_cons (i := 3) sc__law_turned_piece.nd rfl (.inl rfl) (tgs_cons (i := 4) sc__law_turned_piece.nd rfl (.inl rfl) tgs_nil))) (ev_var 0 (pv 0)))
    (svs_cons (sv_set 5 sc__law_turned_piece.nd rfl (.inl rfl) (ev_if (tv_cmp (ov_ge hu) (ev_var 1 (pv 1)) ev_int (nomark _)) (ev_tup (av_cons (ev_op ov_sub ev_int (ev_ix hu (ev_var 4 (pv 4)) ev_int)) (av_cons (ev_ix hu (ev_var 4 (pv 4)) ev_int) av_nil))) (ev_var 4 (pv 4))))
    (svs_cons (sv_set 2 sc__law_turned_piece.nd rfl (.inl rfl) (ev_if (tv_cmp (ov_ge hu) (ev_var 1 (pv 1)) ev_int (nomark _)) (ev_callTy ca_tuple rfl C.b_tuple (by decide +kernel) (av_cons (ev_lcW rfl sc__law_turned_piece.nd (iv_seq (ev_var 2 (pv 2))) (blkOk_by (N := n__law_turned_piece) (sc := defScope st__law_turned_piece) (own := [("_law_cell", 7)]) (by decide +kernel)) (fun _ _ _ _ _ => (gv_name 7 sc__law_turned_piece.nd rfl (.inl rfl))) (fun _ _ _ _ _ => tsv_nil) (fun _ _ _ _ _ => (ev_tup (av_cons (ev_op ov_sub ev_int (ev_ix hu (ev_var 7 (pv 7)) ev_int)) (av_cons (ev_ix hu (ev_var 7 (pv 7)) ev_int) (av_cons (ev_ix hu (ev_var 7 (pv 7)) ev_int) av_nil))))) (by decide)) av_nil)) (ev_var 2 (pv 2))))
    (svs_cons (sv_for PassesOwn.never rfl (iv_rng1 rfl C.b_range (av_cons (ev_op ov_mod (ev_callTy ca_int rfl C.b_int (by decide +kernel) (av_cons (ev_var 1 (pv 1)) av_nil)) ev_int) av_nil)) (gv_name 6 sc__law_turned_piece.nd rfl (.inl rfl)) (svs_cons (sv_set 2 sc__law_turned_piece.nd rfl (.inl rfl) (ev_callTy ca_tuple rfl C.b_tuple (by decide +kernel) (av_cons (ev_lcW rfl sc__law_turned_piece.nd (iv_seq (ev_var 2 (pv 2))) (blkOk_by (N := n__law_turned_piece) (sc := defScope st__law_turned_piece) (own := [("_law_cell", 7)]) (by decide +kernel)) (fun _ _ _ _ _ => (gv_name 7 sc__law_turned_piece.nd rfl (.inl rfl))) (fun _ _ _ _ _ => tsv_nil) (fun _ _ _ _ _ => (ev_tup (av_cons (ev_op ov_sub ev_int (ev_ix hu (ev_var 7 (pv 7)) ev_int)) (av_cons (ev_ix hu (ev_var 7 (pv 7)) ev_int) (av_cons (ev_ix hu (ev_var 7 (pv 7)) ev_int) av_nil))))) (by decide)) av_nil)))
    (svs_one (sv_set 5 sc__law_turned_piece.nd rfl (.inl rfl) (ev_tup (av_cons (ev_op ov_sub ev_int (ev_ix hu (ev_var 5 (pv 5)) ev_int)) (av_cons (ev_ix hu (ev_var 5 (pv 5)) ev_int) av_nil)))))) (by decide))
    (svs_one (sv_ret (ev_tup (av_cons (ev_callTy ca_tuple rfl C.b_tuple (by decide +kernel) (av_cons (ev_callB (ca_sortedT hu) rfl C.b_sorted (by decide +kernel) (av_cons (ev_var 2 (pv 2)) av_nil)) av_nil)) (av_cons (ev_var 3 (pv 3)) (av_cons (ev_var 5 (pv 5)) av_nil))))))))))

/-! _law_kit -/
def g__law_kit : Sh → Option Res := (fSeq (fPar [0, 1] (fConsF [] (fTup (fCons (fTup (fCons (fC (.im (.num 0))) (fCons (fC (.im (.num 2))) (fCons (fC (.im (.num 1))) fNil)))) (fCons (fTup (fCons (fC (.im (.num 1))) (fCons (fC (.im (.num 0))) (fCons (fC (.im (.num 1))) fNil)))) (fCons (fTup (fCons (fC (.im (.num 1))) (fCons (fC (.im (.num 2))) (fCons (fC (.im (.num 1))) fNil)))) (fCons (fTup (fCons (fC (.im (.num 2))) (fCons (fC (.im (.num 1))) (fCons (fC (.im (.num 1))) fNil)))) (fCons (fTup (fCons (fC (.im (.num 2))) (fCons (fC (.im (.num 2))) (fCons (fC (.im (.num 1))) fNil)))) fNil)))))) (fConsF [] (fTup (fCons (fTup (fCons (fC (.im (.num 0))) (fCons (fC (.im (.num 0))) (fCons (fC (.im (.num 1))) fNil)))) (fCons (fTup (fCons (fC (.im (.num 1))) (fCons (fC (.im (.num 0))) (fCons (fC (.im (.num 1))) fNil)))) (fCons (fTup (fCons (fC (.im (.num 2))) (fCons (fC (.im (.num 0))) (fCons (fC (.im (.num 1))) fNil)))) fNil)))) fNil)))
    (fSeq (fSet 2 [] (fTup (fCons (fTup (fCons (fC (.im (.num 0))) (fCons (fC (.im (.num 0))) (fCons (fC (.im (.num 1))) fNil)))) (fCons (fTup (fCons (fC (.im (.num 0))) (fCons (fC (.im (.num 1))) (fCons (fC (.im (.num 1))) fNil)))) (fCons (fTup (fCons (fC (.im (.num 1))) (fCons (fC (.im (.num 0))) (fCons (fC (.im (.num 1))) fNil)))) (fCons (fTup (fCons (fC (.im (.num 1))) (fCons (fC (.im (.num 1))) (fCons (fC (.im (.num 1))) fNil)))) fNil))))))
    (fSeq (fSet 3 [] (fTup (fCons (fTup (fCons (fC (.im (.num 0))) (fCons (fC (.im (.num 0))) (fCons (fC (.im (.num 1))) fNil)))) (fCons (fTup (fCons (fC (.im (.num 0))) (fCons (fC (.im (.num 2))) (fCons (fC (.im (.num 1))) fNil)))) (fCons (fTup (fCons (fC (.im (.num 1))) (fCons (fC (.im (.num 3))) (fCons (fC (.im (.num 1))) fNil)))) (fCons (fTup (fCons (fC (.im (.num 2))) (fCons (fC (.im (.num 3))) (fCons (fC (.im (.num 1))) fNil)))) (fCons (fTup (fCons (fC (.im (.num 3))) (fCons (fC (.im (.num 0))) (fCons (fC (.im (.num 1))) fNil)))) (fCons (fTup (fCons (fC (.im (.num 3))) (fCons (fC (.im (.num 3))) (fCons (fC (.im (.num 1))) fNil)))) (fCons (fTup (fCons (fC (.im (.num 4))) (fCons (fC (.im (.num 1))) (fCons (fC (.im (.num 1))) fNil)))) (fCons (fTup (fCons (fC (.im (.num 4))) (fCons (fC (.im (.num 2))) (fCons (fC (.im (.num 1))) fNil)))) (fCons (fTup (fCons (fC (.im (.num 4))) (fCons (fC (.im (.num 3))) (fCons (fC (.im (.num 1))) fNil)))) fNil)))))))))))
    (fRet [] [] (fLst (fCons (fTup (fCons (fVar 0) (fCons (fC (.im (.num 4))) (fCons (fTup (fCons (fC (.im (.num 1))) (fCons (fC (.im (.num 1))) fNil))) fNil)))) (fCons (fTup (fCons (fVar 1) (fCons (fC (.im (.num 2))) (fCons (fTup (fCons (fC (.im (.num 0))) (fCons (fC (.im (.num 0))) fNil))) fNil)))) (fCons (fTup (fCons (fVar 2) (fCons (fC (.im (.num 1))) (fCons (fTup (fCons (fC (.im (.num 0))) (fCons (fC (.im (.num 0))) fNil))) fNil)))) (fCons (fTup (fCons (fVar 3) (fCons (fC (.im (.num 4))) (fCons (fTup (fCons (fC (.im (.num 2))) (fCons (fC (.im (.num 0))) fNil))) fNil)))) fNil)))))))))
def F__law_kit : List U → Option U := runG 4 g__law_kit
theorem d__law_kit (C : Cs K mg) : DV P w K mg base 1 "_law_kit" [] F__law_kit := dv_of (O := []) C.t__law_kit sc__law_kit (by decide) fun f cdv A outer s H E hr => by
  have hu := hr.units
  exact (svs_cons (sv_asgT rfl (tgs_cons (i := 0) sc__law_kit.nd rfl (.inl rfl) (tgs_cons (i := 1) sc__law_kit.nd rfl (.inl rfl) tgs_nil)) (fv_cons (ev_tup (av_cons (ev_tup (av_cons ev_int (av_cons ev_int (av_cons ev_int av_nil)))) (av_cons (ev_tup (av_cons ev_int (av_cons ev_int (av_cons ev_int av_nil)))) (av_cons (ev_tup (av_cons ev_int (av_cons ev_int (av_cons ev_int av_nil)))) (av_cons (ev_tup (av_cons ev_int (av_cons ev_int (av_cons ev_int av_nil)))) (av_cons (ev_tup (av_cons ev_int (av_cons ev_int (av_cons ev_int av_nil)))) av_nil)))))) (fv_cons (ev_tup (av_cons (ev_tup (av_cons ev_int (av_cons ev_int (av_cons ev_int av_nil)))) (av_cons (ev_tup (av_cons ev_int (av_cons ev_int (av_cons ev_int av_nil)))) (av_cons (ev_tup (av_cons ev_int (av_cons ev_int (av_cons ev_int av_nil)))) av_nil)))) fv_nil)))
    (svs_cons (sv_set 2 sc__law_kit.nd rfl (.inl rfl) (ev_tup (av_cons (ev_tup (av_cons ev_int (av_cons ev_int (av_cons ev_int av_nil)))) (av_cons (ev_tup (av_cons ev_int (av_cons ev_int (av_cons ev_int av_nil)))) (av_cons (ev_tup (av_cons ev_int (av_cons ev_int (av_cons ev_int av_nil)))) (av_cons (ev_tup (av_cons ev_int (av_cons ev_int (av_cons ev_int av_nil)))) av_nil))))))
    (svs_cons (sv_set 3 sc__law_kit.nd rfl (.inl rfl) (ev_tup (av_cons (ev_tup (av_cons ev_int (av_cons ev_int (av_cons ev_int av_nil)))) (av_cons (ev_tup (av_cons ev_int (av_cons ev_int (av_cons ev_int av_nil)))) (av_cons (ev_tup (av_cons ev_int (av_cons ev_int (av_cons ev_int av_nil)))) (av_cons (ev_tup (av_cons ev_int (av_cons ev_int (av_cons ev_int av_nil)))) (av_cons (ev_tup (av_cons ev_int (av_cons ev_int (av_cons ev_int av_nil)))) (av_cons (ev_tup (av_cons ev_int (av_cons ev_int (av_cons ev_int av_nil)))) (av_cons (ev_tup (av_cons ev_int (av_cons ev_int (av_cons ev_int av_nil)))) (av_cons (ev_tup (av_cons ev_int (av_cons ev_int (av_cons ev_int av_nil)))) (av_cons (ev_tup (av_cons ev_int (av_cons ev_int (av_cons ev_int av_nil)))) av_nil)))))))))))
    (svs_one (sv_ret (ev_lst (av_cons (ev_tup (av_cons (ev_var 0 (pv 0)) (av_cons ev_int (av_cons (ev_tup (av_cons ev_int (av_cons ev_int av_nil))) av_nil)))) (av_cons (ev_tup (av_cons (ev_var 1 (pv 1)) (av_cons ev_int (av_cons (ev_tup (av_cons ev_int (av_cons ev_int av_nil))) av_nil)))) (av_cons (ev_tup (av_cons (ev_var 2 (pv 2)) (av_cons ev_int (av_cons (ev_tup (av_cons ev_int (av_cons ev_int av_nil))) av_nil)))) (av_cons (ev_tup (av_cons (ev_var 3 (pv 3)) (av_cons ev_int (av_cons (ev_tup (av_cons ev_int (av_cons ev_int av_nil))) av_nil)))) av_nil))))))))))
end
end VL

set_option Elab.async false
set_option linter.all false
set_option maxRecDepth 100000
set_option maxHeartbeats 1000000
/-! printed by gen.py: the walks of the plain defs. -/
namespace VL
open PySem L2 PyProof.Rows
section
variable {P : Program} {w : World} {K : PySem.W.Frag} {mg : Str → Option Value} {base : Heap}

/-! are_counts -/
def g_are_counts : Sh → Option Res := (fSeq (fIfS (fOr (fNot (fB (f1 (isiU "tuple") (fVar 0)))) (fB (f2 neU (fLc (fItems (fVar 0)) (bName 2) (fNot (fB (fCallD F_is_in (fCons (fVar 2) (fCons (fVar 1) (fCons (fC (.im (.num 8))) fNil)))))) (fVar 2) [2]) (fLst fNil)))) (fRet [] [] (fC (.bl false))) fNext)
    (fRet [] [] (f2 eqU (fCall listU (fCons (fVar 0) fNil)) (f1 srtSetU (fVar 0)))))
def F_are_counts : List U → Option U := runG 3 g_are_counts
theorem d_are_counts (C : Cs K mg) : DV P w K mg base 2 "are_counts" ["value", "least"] F_are_counts := dv_of (O := []) C.t_are_counts sc_are_counts (by decide) fun f cdv A outer s H E hr => by
  have hu := hr.units
  exact (svs_cons (sv_if (TW.tv (tw_or (tv_not (tv_val (ev_isi rfl C.b_isinstance (ev_var 0 (pv 0)) rfl C.b_tuple (T := "") (tn := "tuple") (by decide +kernel)))) (tw_or1 (tv_cmp (ov_ne hu) (ev_lcW rfl sc_are_counts.nd (iv_seq (ev_var 0 (pv 0))) (blkOk_by (N := n_are_counts) (sc := defScope st_are_counts) (own := [("one", 2)]) (by decide +kernel)) (fun _ _ _ _ _ => (gv_name 2 sc_are_counts.nd rfl (.inl rfl))) (fun _ _ _ _ _ => (tsv_one (tv_not (tv_val (ev_call (d_is_in C) (hr.mono (by decide)) rfl (av_cons (ev_var 2 (pv 2)) (av_cons (ev_var 1 (pv 1)) (av_cons ev_int av_nil))) len3))))) (fun _ _ _ _ _ => (ev_var 2 (pv 2))) (by decide)) (ev_lst av_nil) (nomark _))))) (svs_one (sv_ret ev_bl)) svs_nil)
    (svs_one (sv_ret (ev_cmp (ov_eq hu) (ev_callTy ca_list rfl C.b_list (by decide +kernel) (av_cons (ev_var 0 (pv 0)) av_nil)) (ev_srtSet rfl rfl C.b_sorted rfl C.b_set (ev_var 0 (pv 0))) (nomark _)))))

/-! is_move -/
def g_is_move : Sh → Option Res := (fSeq (fIfS (fOr (fNot (fB (f1 (isiU "tuple") (fVar 0)))) (fB (f2 neU (fCall lenU (fCons (fVar 0) fNil)) (fC (.im (.num 2)))))) (fRet [] [] (fC (.bl false))) fNext)
    (fRet [] [] (fU (fAnd (fB (fCallD F_is_in (fCons (f2 ixU (fVar 0) (fC (.im (.num 0)))) (fCons (f1 negU (fC (.im (.num (10 ^ 60))))) (fCons (fC (.im (.num (10 ^ 60)))) fNil))))) (fB (fCallD F_is_in (fCons (f2 ixU (fVar 0) (fC (.im (.num 1)))) (fCons (f1 negU (fC (.im (.num (10 ^ 60))))) (fCons (fC (.im (.num (10 ^ 60)))) fNil)))))))))
def F_is_move : List U → Option U := runG 1 g_is_move
theorem d_is_move (C : Cs K mg) : DV P w K mg base 2 "is_move" ["value"] F_is_move := dv_of (O := []) C.t_is_move sc_is_move (by decide) fun f cdv A outer s H E hr => by
  have hu := hr.units
  exact (svs_cons (sv_if (TW.tv (tw_or (tv_not (tv_val (ev_isi rfl C.b_isinstance (ev_var 0 (pv 0)) rfl C.b_tuple (T := "") (tn := "tuple") (by decide +kernel)))) (tw_or1 (tv_cmp (ov_ne hu) (ev_callB ca_len rfl C.b_len (by decide +kernel) (av_cons (ev_var 0 (pv 0)) av_nil)) ev_int (nomark _))))) (svs_one (sv_ret ev_bl)) svs_nil)
    (svs_one (sv_ret (ev_and (ev_call (d_is_in C) (hr.mono (by decide)) rfl (av_cons (ev_ix hu (ev_var 0 (pv 0)) ev_int) (av_cons (ev_un ov_neg (ev_glob rfl C.c_FAR)) (av_cons (ev_glob rfl C.c_FAR) av_nil))) len3) (ev_one (ev_call (d_is_in C) (hr.mono (by decide)) rfl (av_cons (ev_ix hu (ev_var 0 (pv 0)) ev_int) (av_cons (ev_un ov_neg (ev_glob rfl C.c_FAR)) (av_cons (ev_glob rfl C.c_FAR) av_nil))) len3))))))

/-! turned_in -/
def g_turned_in : Sh → Option Res := (fRet [] [] (fCall tupU (fCons (fCall srtU (fCons (fLc (fItems (fVar 0)) (bTup [2, 3, 4]) fYes (f2 addU (fCallD F_turned_place (fCons (fVar 2) (fCons (fVar 3) (fCons (fVar 1) fNil)))) (fTup (fCons (fVar 4) fNil))) [2, 3, 4]) fNil)) fNil)))
def F_turned_in : List U → Option U := runG 5 g_turned_in
theorem d_turned_in (C : Cs K mg) : DV P w K mg base 2 "turned_in" ["board", "turn"] F_turned_in := dv_of (O := []) C.t_turned_in sc_turned_in (by decide) fun f cdv A outer s H E hr => by
  have hu := hr.units
  exact (svs_one (sv_ret (ev_callTy ca_tuple rfl C.b_tuple (by decide +kernel) (av_cons (ev_callB (ca_sorted hu) rfl C.b_sorted (by decide +kernel) (av_cons (ev_lcW rfl sc_turned_in.nd (iv_seq (ev_var 0 (pv 0))) (blkOk_by (N := n_turned_in) (sc := defScope st_turned_in) (own := [("x", 2), ("y", 3), ("state", 4)]) (by decide +kernel)) (fun _ _ _ _ _ => (gv_tup rfl (tgs_cons (i := 2) sc_turned_in.nd rfl (.inl rfl) (tgs_cons (i := 3) sc_turned_in.nd rfl (.inl rfl) (tgs_cons (i := 4) sc_turned_in.nd rfl (.inl rfl) tgs_nil))))) (fun _ _ _ _ _ => tsv_nil) (fun _ _ _ _ _ => (ev_op ov_add (ev_call (d_turned_place C) (hr.mono (by decide)) rfl (av_cons (ev_var 2 (pv 2)) (av_cons (ev_var 3 (pv 3)) (av_cons (ev_var 1 (pv 1)) av_nil))) len3) (ev_tup (av_cons (ev_var 4 (pv 4)) av_nil)))) (by decide)) av_nil)) av_nil))))

/-! normal_in -/
def g_normal_in : Sh → Option Res := (fSeq (fIfS (fB (f2 eqU (fVar 0) (fTup fNil))) (fRet [] [] (fTup (fCons (fTup fNil) (fCons (fTup (fCons (fC (.im (.num 0))) (fCons (fC (.im (.num 0))) fNil))) fNil)))) fNext)
    (fSeq (fUnp [1, 2] (f2 cutU (fCallD F_box_in (fCons (fVar 0) fNil)) (fC (.im (.num 2)))))
    (fRet [] [] (fTup (fCons (fCallD F_shifted_in (fCons (fVar 0) (fCons (fTup (fCons (f1 negU (fVar 1)) (fCons (f1 negU (fVar 2)) fNil))) fNil))) (fCons (fTup (fCons (fVar 1) (fCons (fVar 2) fNil))) fNil))))))
def F_normal_in : List U → Option U := runG 3 g_normal_in
theorem d_normal_in (C : Cs K mg) : DV P w K mg base 2 "normal_in" ["board"] F_normal_in := dv_of (O := []) C.t_normal_in sc_normal_in (by decide) fun f cdv A outer s H E hr => by
  have hu := hr.units
  exact (svs_cons (sv_if (tv_cmp (ov_eq hu) (ev_var 0 (pv 0)) (ev_tup av_nil) (nomark _)) (svs_one (sv_ret (ev_tup (av_cons (ev_tup av_nil) (av_cons (ev_tup (av_cons ev_int (av_cons ev_int av_nil))) av_nil))))) svs_nil)
    (svs_cons (sv_unp rfl (tgs_cons (i := 1) sc_normal_in.nd rfl (.inl rfl) (tgs_cons (i := 2) sc_normal_in.nd rfl (.inl rfl) tgs_nil)) (ev_cut (ev_call (d_box_in C) (hr.mono (by decide)) rfl (av_cons (ev_var 0 (pv 0)) av_nil) len1) ev_int))
    (svs_one (sv_ret (ev_tup (av_cons (ev_call (d_shifted_in C) (hr.mono (by decide)) rfl (av_cons (ev_var 0 (pv 0)) (av_cons (ev_tup (av_cons (ev_un ov_neg (ev_var 1 (pv 1))) (av_cons (ev_un ov_neg (ev_var 2 (pv 2))) av_nil))) av_nil)) len2) (av_cons (ev_tup (av_cons (ev_var 1 (pv 1)) (av_cons (ev_var 2 (pv 2)) av_nil))) av_nil)))))))

/-! next_cells -/
def g_next_cells : Sh → Option Res := (fSeq (fUnp [2, 3, 4] (fVar 0))
    (fSeq (fPar [5, 6] (fConsF [] (fCallD F_neighbours (fCons (fVar 1) fNil)) (fConsF [] (fC (.dc [])) fNil)))
    (fSeq (fFor (fKeysI (fVar 5)) (bName 7) (fIfS (fAnd (fB (f2 ninU (fVar 7) (fVar 1))) (fB (f2 inU (f2 ixU (fVar 5) (fVar 7)) (fVar 2)))) (fSto 6 (fC (.im (.num 1))) (fVar 7)) fNext))
    (fSeq (fFor (fKeysI (fVar 1)) (bName 7) (fSeq (fSet 8 [] (f2 ixU (fVar 1) (fVar 7)))
    (fIfS (fAnd (fB (f2 eqU (fVar 8) (fC (.im (.num 1))))) (fB (f2 inU (f3 getU (fVar 5) (fVar 7) (fC (.im (.num 0)))) (fVar 3)))) (fSto 6 (fC (.im (.num 1))) (fVar 7)) (fIfS (fB (f2 ltU (f2 addU (fVar 8) (fC (.im (.num 1)))) (fVar 4))) (fSto 6 (f2 addU (fVar 8) (fC (.im (.num 1)))) (fVar 7)) fNext))))
    (fRet [6] [6] (fVar 6))))))
def F_next_cells : List U → Option U := runG 9 g_next_cells
theorem d_next_cells (C : Cs K mg) : DV P w K mg base 2 "next_cells" ["rule", "cells"] F_next_cells := dv_of (O := [6]) C.t_next_cells sc_next_cells (by decide) fun f cdv A outer s H E hr => by
  have hu := hr.units
  exact (svs_cons (sv_unp rfl (tgs_cons (i := 2) sc_next_cells.nd rfl (.inl rfl) (tgs_cons (i := 3) sc_next_cells.nd rfl (.inl rfl) (tgs_cons (i := 4) sc_next_cells.nd rfl (.inl rfl) tgs_nil))) (ev_var 0 (pv 0)))
    (svs_cons (sv_par (i := 5) (j := 6) rfl sc_next_cells.nd rfl rfl (by decide) rfl rfl (fv_cons (ev_call (d_neighbours C) (hr.mono (by decide)) rfl (av_cons (ev_var 1 (pv 1)) av_nil) len1) (fv_cons ev_dnew fv_nil)) (by rfl))
    (svs_cons (sv_for PassesOwn.never rfl (iv_keys (ev_var 5 (pv 5))) (gv_name 7 sc_next_cells.nd rfl (.inl rfl)) (svs_one (sv_if (TW.tv (tw_and (tv_cmp (ov_nin hu) (ev_var 7 (pv 7)) (ev_var 1 (pv 1)) rfl) (tw_and1 (tv_cmp (ov_in hu) (ev_ix hu (ev_var 5 (pv 5)) (ev_var 7 (pv 7))) (ev_var 2 (pv 2)) rfl)))) (svs_one (sv_sto (i := 6) hu (by decide) (pv 6) (ev_var 7 (pv 7)) ev_int)) svs_nil)) (by decide))
    (svs_cons (sv_for PassesOwn.never rfl (iv_keys (ev_var 1 (pv 1))) (gv_name 7 sc_next_cells.nd rfl (.inl rfl)) (svs_cons (sv_set 8 sc_next_cells.nd rfl (.inl rfl) (ev_ix hu (ev_var 1 (pv 1)) (ev_var 7 (pv 7))))
    (svs_one (sv_if (TW.tv (tw_and (tv_cmp (ov_eq hu) (ev_var 8 (pv 8)) ev_int (nomark _)) (tw_and1 (tv_cmp (ov_in hu) (ev_get2 hu (ev_var 5 (pv 5)) (ev_var 7 (pv 7)) ev_int ⟨rfl, rfl, rfl, rfl⟩) (ev_var 3 (pv 3)) rfl)))) (svs_one (sv_sto (i := 6) hu (by decide) (pv 6) (ev_var 7 (pv 7)) ev_int)) (svs_one (sv_if (tv_cmp (ov_lt hu) (ev_op ov_add (ev_var 8 (pv 8)) ev_int) (ev_var 4 (pv 4)) (nomark _)) (svs_one (sv_sto (i := 6) hu (by decide) (pv 6) (ev_var 7 (pv 7)) (ev_op ov_add (ev_var 8 (pv 8)) ev_int))) svs_nil))))) (by decide))
    (svs_one (sv_ret (ev_var 6 (pv 6))))))))

/-! need_box -/
def g_need_box : Sh → Option Res := (fSeq (fIfS (fOr (fNot (fB (fCallD F_is_in (fCons (fVar 0) (fCons (fC (.im (.num 1))) (fCons (fC (.im (.num 12))) fNil)))))) (fOr (fNot (fB (fCallD F_is_in (fCons (fVar 1) (fCons (fC (.im (.num 1))) (fCons (fC (.im (.num 12))) fNil)))))) (fNot (fB (fCallD F_is_in (fCons (fVar 2) (fCons (fC (.im (.num 1))) (fCons (fC (.im (.num 12))) fNil)))))))) (fun _ => none) fNext)
    (fIfS (fB (f2 gtU (f2 mulU (fVar 0) (fVar 1)) (fC (.im (.num 12))))) (fun _ => none) fNext))
def F_need_box : List U → Option U := runG 3 g_need_box
theorem d_need_box (C : Cs K mg) : DV P w K mg base 2 "need_box" ["wide", "high", "most"] F_need_box := dv_of (O := []) C.t_need_box sc_need_box (by decide) fun f cdv A outer s H E hr => by
  have hu := hr.units
  exact (svs_cons (sv_if (TW.tv (tw_or (tv_not (tv_val (ev_call (d_is_in C) (hr.mono (by decide)) rfl (av_cons (ev_var 0 (pv 0)) (av_cons ev_int (av_cons (ev_glob rfl C.c_MOST_BOX) av_nil))) len3))) (tw_or (tv_not (tv_val (ev_call (d_is_in C) (hr.mono (by decide)) rfl (av_cons (ev_var 1 (pv 1)) (av_cons ev_int (av_cons (ev_glob rfl C.c_MOST_BOX) av_nil))) len3))) (tw_or1 (tv_not (tv_val (ev_call (d_is_in C) (hr.mono (by decide)) rfl (av_cons (ev_var 2 (pv 2)) (av_cons ev_int (av_cons (ev_glob rfl C.c_MOST_ROUND) av_nil))) len3))))))) (svs_one sv_never) svs_nil)
    (svs_one (sv_if (tv_cmp (ov_gt hu) (ev_op ov_mul (ev_var 0 (pv 0)) (ev_var 1 (pv 1))) (ev_glob rfl C.c_MOST_BOX) (nomark _)) (svs_one sv_never) svs_nil)))

/-! boards_in -/
def g_boards_in : Sh → Option Res := (fSeq (fSet 2 [] (fLc2 (fRng1 (fCons (fVar 0) fNil)) (bName 7) fYes (fRng1 (fCons (fVar 1) fNil)) (bName 8) fYes (fTup (fCons (fVar 7) (fCons (fVar 8) fNil))) [7, 8] [8]))
    (fSeq (fSet 3 [] (fLst fNil))
    (fSeq (fFor (fRng2 (fCons (fC (.im (.num 1))) (fCons (f2 shlU (fC (.im (.num 1))) (fCall lenU (fCons (fVar 2) fNil))) fNil))) (bName 4) (fSeq (fSet 5 [] (fDc (fEnum (fVar 2)) (bTup [9, 10]) (fB (f2 eqU (f2 bandU (f2 shrU (fVar 4) (fVar 9)) (fC (.im (.num 1)))) (fC (.im (.num 1))))) (fVar 10) (fC (.im (.num 1))) [9, 10]))
    (fSeq (fSet 6 [] (fCallD F_board_of (fCons (fVar 5) fNil)))
    (fIfS (fAnd (fB (f2 eqU (fCall maxU (fCons (fLc (fItems (fVar 6)) (bName 11) fYes (f2 ixU (fVar 11) (fC (.im (.num 0)))) [11]) fNil)) (f2 subU (fVar 0) (fC (.im (.num 1)))))) (fB (f2 eqU (fCall maxU (fCons (fLc (fItems (fVar 6)) (bName 11) fYes (f2 ixU (fVar 11) (fC (.im (.num 1)))) [11]) fNil)) (f2 subU (fVar 1) (fC (.im (.num 1))))))) (fIfS (fAnd (fB (f2 eqU (fCall minU (fCons (fLc (fItems (fVar 6)) (bName 11) fYes (f2 ixU (fVar 11) (fC (.im (.num 0)))) [11]) fNil)) (fC (.im (.num 0))))) (fB (f2 eqU (fCall minU (fCons (fLc (fItems (fVar 6)) (bName 11) fYes (f2 ixU (fVar 11) (fC (.im (.num 1)))) [11]) fNil)) (fC (.im (.num 0)))))) (fApp 3 (fVar 6)) fNext) fNext))))
    (fRet [3] [3] (fVar 3)))))
def F_boards_in : List U → Option U := runG 12 g_boards_in
theorem d_boards_in (C : Cs K mg) : DV P w K mg base 2 "boards_in" ["wide", "high"] F_boards_in := dv_of (O := [3]) C.t_boards_in sc_boards_in (by decide) fun f cdv A outer s H E hr => by
  have hu := hr.units
  exact (svs_cons (sv_setLc2W (i := 2) (vs1 := [8]) rfl sc_boards_in.nd rfl rfl (sw_true rfl rfl rfl (by rfl)) (iv_rng1 rfl C.b_range (av_cons (ev_var 0 (pv 0)) av_nil)) (blkOk_by (N := n_boards_in) (sc := defScope st_boards_in) (own := [("x", 7), ("y", 8)]) (by decide +kernel)) (by decide) (fun _ _ _ _ _ => (gv_name 7 sc_boards_in.nd rfl (.inl rfl))) (fun _ _ _ _ _ => tsv_nil) (fun _ _ _ _ _ => (iv_rng1 rfl C.b_range (av_cons (ev_var 1 (pv 1)) av_nil))) (fun _ _ _ _ _ => (gv_name 8 sc_boards_in.nd rfl (.inl rfl))) (fun _ _ _ _ _ => tsv_nil) (fun _ _ _ _ _ => (ev_tup (av_cons (ev_var 7 (pv 7)) (av_cons (ev_var 8 (pv 8)) av_nil)))) (by decide) (by decide))
    (svs_cons (sv_set 3 sc_boards_in.nd rfl (.inl rfl) (ev_lst av_nil))
    (svs_cons (sv_for PassesOwn.never rfl (iv_rng2 rfl C.b_range (av_cons ev_int (av_cons (ev_op ov_shl ev_int (ev_callB ca_len rfl C.b_len (by decide +kernel) (av_cons (ev_var 2 (pv 2)) av_nil))) av_nil))) (gv_name 4 sc_boards_in.nd rfl (.inr rfl)) (svs_cons (sv_setDcW (i := 5) hu rfl sc_boards_in.nd rfl rfl (sw_trueD rfl rfl rfl (by rfl)) (iv_enum rfl C.b_enumerate (ev_var 2 (pv 2))) (blkOk_by (N := n_boards_in) (sc := defScope st_boards_in) (own := [("at", 9), ("place", 10)]) (by decide +kernel)) (fun _ _ _ _ _ => (gv_tup rfl (tgs_cons (i := 9) sc_boards_in.nd rfl (.inl rfl) (tgs_cons (i := 10) sc_boards_in.nd rfl (.inl rfl) tgs_nil)))) (fun _ _ _ _ _ => (tsv_one (tv_cmp (ov_eq hu) (ev_op ov_band (ev_op ov_shr (ev_var 4 (pv 4)) (ev_var 9 (pv 9))) ev_int) ev_int (nomark _)))) (fun _ _ _ _ _ => (ev_var 10 (pv 10))) (fun _ _ _ _ _ => ev_int) (by decide))
    (svs_cons (sv_set 6 sc_boards_in.nd rfl (.inl rfl) (ev_call (d_board_of C) (hr.mono (by decide)) rfl (av_cons (ev_var 5 (pv 5)) av_nil) len1))
    (svs_one (sv_if (TW.tv (tw_and (tv_cmp (ov_eq hu) (ev_callB (ca_max rfl hu) rfl C.b_max (by decide +kernel) (av_cons (ev_lcW rfl sc_boards_in.nd (iv_seq (ev_var 6 (pv 6))) (blkOk_by (N := n_boards_in) (sc := defScope st_boards_in) (own := [("cell", 11)]) (by decide +kernel)) (fun _ _ _ _ _ => (gv_name 11 sc_boards_in.nd rfl (.inl rfl))) (fun _ _ _ _ _ => tsv_nil) (fun _ _ _ _ _ => (ev_ix hu (ev_var 11 (pv 11)) ev_int)) (by decide)) av_nil)) (ev_op ov_sub (ev_var 0 (pv 0)) ev_int) (nomark _)) (tw_and1 (tv_cmp (ov_eq hu) (ev_callB (ca_max rfl hu) rfl C.b_max (by decide +kernel) (av_cons (ev_lcW rfl sc_boards_in.nd (iv_seq (ev_var 6 (pv 6))) (blkOk_by (N := n_boards_in) (sc := defScope st_boards_in) (own := [("cell", 11)]) (by decide +kernel)) (fun _ _ _ _ _ => (gv_name 11 sc_boards_in.nd rfl (.inl rfl))) (fun _ _ _ _ _ => tsv_nil) (fun _ _ _ _ _ => (ev_ix hu (ev_var 11 (pv 11)) ev_int)) (by decide)) av_nil)) (ev_op ov_sub (ev_var 1 (pv 1)) ev_int) (nomark _))))) (svs_one (sv_if (TW.tv (tw_and (tv_cmp (ov_eq hu) (ev_callB (ca_min rfl hu) rfl C.b_min (by decide +kernel) (av_cons (ev_lcW rfl sc_boards_in.nd (iv_seq (ev_var 6 (pv 6))) (blkOk_by (N := n_boards_in) (sc := defScope st_boards_in) (own := [("cell", 11)]) (by decide +kernel)) (fun _ _ _ _ _ => (gv_name 11 sc_boards_in.nd rfl (.inl rfl))) (fun _ _ _ _ _ => tsv_nil) (fun _ _ _ _ _ => (ev_ix hu (ev_var 11 (pv 11)) ev_int)) (by decide)) av_nil)) ev_int (nomark _)) (tw_and1 (tv_cmp (ov_eq hu) (ev_callB (ca_min rfl hu) rfl C.b_min (by decide +kernel) (av_cons (ev_lcW rfl sc_boards_in.nd (iv_seq (ev_var 6 (pv 6))) (blkOk_by (N := n_boards_in) (sc := defScope st_boards_in) (own := [("cell", 11)]) (by decide +kernel)) (fun _ _ _ _ _ => (gv_name 11 sc_boards_in.nd rfl (.inl rfl))) (fun _ _ _ _ _ => tsv_nil) (fun _ _ _ _ _ => (ev_ix hu (ev_var 11 (pv 11)) ev_int)) (by decide)) av_nil)) ev_int (nomark _))))) (svs_one (sv_app (i := 3) (by decide) (pv 3) (ev_var 6 (pv 6)))) svs_nil)) svs_nil)))) (by decide))
    (svs_one (sv_ret (ev_var 3 (pv 3)))))))

/-! _law_box_boards -/
def g__law_box_boards : Sh → Option Res := (fSeq (fPar [2, 3] (fConsF [] (fLst fNil) (fConsF [] (fLst fNil) fNil)))
    (fSeq (fFor (fRng1 (fCons (fVar 0) fNil)) (bName 4) (fSet 2 [] (f2 addU (fVar 2) (fLc (fRng1 (fCons (fVar 1) fNil)) (bName 7) fYes (fTup (fCons (fVar 4) (fCons (fVar 7) fNil))) [7]))))
    (fSeq (fFor (fRng2 (fCons (fC (.im (.num 1))) (fCons (f2 shlU (fC (.im (.num 1))) (fCall lenU (fCons (fVar 2) fNil))) fNil))) (bName 5) (fSeq (fSet 6 [] (fCall tupU (fCons (fLc (fRng1 (fCons (fCall lenU (fCons (fVar 2) fNil)) fNil)) (bName 8) (fB (f2 eqU (f2 bandU (f2 shrU (fVar 5) (fVar 8)) (fC (.im (.num 1)))) (fC (.im (.num 1))))) (f2 addU (f2 ixU (fVar 2) (fVar 8)) (fTup (fCons (fC (.im (.num 1))) fNil))) [8]) fNil)))
    (fIfS (fB (f2 eqU (fCallD F__law_box (fCons (fVar 6) fNil)) (fTup (fCons (fC (.im (.num 0))) (fCons (fC (.im (.num 0))) (fCons (f2 subU (fVar 0) (fC (.im (.num 1)))) (fCons (f2 subU (fVar 1) (fC (.im (.num 1)))) fNil))))))) (fApp 3 (fVar 6)) fNext)))
    (fRet [3] [3] (fVar 3)))))
def F__law_box_boards : List U → Option U := runG 9 g__law_box_boards
theorem d__law_box_boards (C : Cs K mg) : DV P w K mg base 2 "_law_box_boards" ["_law_wide", "_law_high"] F__law_box_boards := dv_of (O := [3]) C.t__law_box_boards sc__law_box_boards (by decide) fun f cdv A outer s H E hr => by
  have hu := hr.units
  exact (svs_cons (sv_asgT rfl (tgs_cons (i := 2) sc__law_box_boards.nd rfl (.inr rfl) (tgs_cons (i := 3) sc__law_box_boards.nd rfl (.inl rfl) tgs_nil)) (fv_cons (ev_lst av_nil) (fv_cons (ev_lst av_nil) fv_nil)))
    (svs_cons (sv_for PassesOwn.never rfl (iv_rng1 rfl C.b_range (av_cons (ev_var 0 (pv 0)) av_nil)) (gv_name 4 sc__law_box_boards.nd rfl (.inr rfl)) (svs_one (sv_set 2 sc__law_box_boards.nd rfl (.inr rfl) (ev_op ov_add (ev_var 2 (pv 2)) (ev_lcW rfl sc__law_box_boards.nd (iv_rng1 rfl C.b_range (av_cons (ev_var 1 (pv 1)) av_nil)) (blkOk_by (N := n__law_box_boards) (sc := defScope st__law_box_boards) (own := [("_law_y", 7)]) (by decide +kernel)) (fun _ _ _ _ _ => (gv_name 7 sc__law_box_boards.nd rfl (.inl rfl))) (fun _ _ _ _ _ => tsv_nil) (fun _ _ _ _ _ => (ev_tup (av_cons (ev_var 4 (pv 4)) (av_cons (ev_var 7 (pv 7)) av_nil)))) (by decide))))) (by decide))
    (svs_cons (sv_for PassesOwn.never rfl (iv_rng2 rfl C.b_range (av_cons ev_int (av_cons (ev_op ov_shl ev_int (ev_callB ca_len rfl C.b_len (by decide +kernel) (av_cons (ev_var 2 (pv 2)) av_nil))) av_nil))) (gv_name 5 sc__law_box_boards.nd rfl (.inr rfl)) (svs_cons (sv_set 6 sc__law_box_boards.nd rfl (.inl rfl) (ev_callTy ca_tuple rfl C.b_tuple (by decide +kernel) (av_cons (ev_lcW rfl sc__law_box_boards.nd (iv_rng1 rfl C.b_range (av_cons (ev_callB ca_len rfl C.b_len (by decide +kernel) (av_cons (ev_var 2 (pv 2)) av_nil)) av_nil)) (blkOk_by (N := n__law_box_boards) (sc := defScope st__law_box_boards) (own := [("_law_k", 8)]) (by decide +kernel)) (fun _ _ _ _ _ => (gv_name 8 sc__law_box_boards.nd rfl (.inl rfl))) (fun _ _ _ _ _ => (tsv_one (tv_cmp (ov_eq hu) (ev_op ov_band (ev_op ov_shr (ev_var 5 (pv 5)) (ev_var 8 (pv 8))) ev_int) ev_int (nomark _)))) (fun _ _ _ _ _ => (ev_op ov_add (ev_ix hu (ev_var 2 (pv 2)) (ev_var 8 (pv 8))) (ev_tup (av_cons ev_int av_nil)))) (by decide)) av_nil)))
    (svs_one (sv_if (tv_cmp (ov_eq hu) (ev_call (d__law_box C) (hr.mono (by decide)) rfl (av_cons (ev_var 6 (pv 6)) av_nil) len1) (ev_tup (av_cons ev_int (av_cons ev_int (av_cons (ev_op ov_sub (ev_var 0 (pv 0)) ev_int) (av_cons (ev_op ov_sub (ev_var 1 (pv 1)) ev_int) av_nil))))) (nomark _)) (svs_one (sv_app (i := 3) (by decide) (pv 3) (ev_var 6 (pv 6)))) svs_nil))) (by decide))
    (svs_one (sv_ret (ev_var 3 (pv 3)))))))

/-! _law_normal -/
def g__law_normal : Sh → Option Res := (fSeq (fIfS (fB (f2 eqU (fVar 0) (fTup fNil))) (fRet [] [] (fTup (fCons (fTup fNil) (fCons (fTup (fCons (fC (.im (.num 0))) (fCons (fC (.im (.num 0))) fNil))) fNil)))) fNext)
    (fSeq (fSet 1 [] (fCallD F__law_box (fCons (fVar 0) fNil)))
    (fRet [] [] (fTup (fCons (fCallD F__law_moved (fCons (fVar 0) (fCons (f2 subU (fC (.im (.num 0))) (f2 ixU (fVar 1) (fC (.im (.num 0))))) (fCons (f2 subU (fC (.im (.num 0))) (f2 ixU (fVar 1) (fC (.im (.num 1))))) fNil)))) (fCons (f2 cutU (fVar 1) (fC (.im (.num 2)))) fNil))))))
def F__law_normal : List U → Option U := runG 2 g__law_normal
theorem d__law_normal (C : Cs K mg) : DV P w K mg base 2 "_law_normal" ["_law_board"] F__law_normal := dv_of (O := []) C.t__law_normal sc__law_normal (by decide) fun f cdv A outer s H E hr => by
  have hu := hr.units
  exact (svs_cons (sv_if (tv_cmp (ov_eq hu) (ev_var 0 (pv 0)) (ev_tup av_nil) (nomark _)) (svs_one (sv_ret (ev_tup (av_cons (ev_tup av_nil) (av_cons (ev_tup (av_cons ev_int (av_cons ev_int av_nil))) av_nil))))) svs_nil)
    (svs_cons (sv_set 1 sc__law_normal.nd rfl (.inl rfl) (ev_call (d__law_box C) (hr.mono (by decide)) rfl (av_cons (ev_var 0 (pv 0)) av_nil) len1))
    (svs_one (sv_ret (ev_tup (av_cons (ev_call (d__law_moved C) (hr.mono (by decide)) rfl (av_cons (ev_var 0 (pv 0)) (av_cons (ev_op ov_sub ev_int (ev_ix hu (ev_var 1 (pv 1)) ev_int)) (av_cons (ev_op ov_sub ev_int (ev_ix hu (ev_var 1 (pv 1)) ev_int)) av_nil))) len3) (av_cons (ev_cut (ev_var 1 (pv 1)) ev_int) av_nil)))))))

/-! _law_step -/
def g__law_step : Sh → Option Res := (fSeq (fPar [2, 3, 4] (fConsF [] (fCall dictU (fCons (fLc (fItems (fVar 1)) (bName 5) fYes (fTup (fCons (f2 cutU (fVar 5) (fC (.im (.num 2)))) (fCons (f2 ixU (fVar 5) (fC (.im (.num 2)))) fNil))) [5]) fNil)) (fConsF [] (fC (.dc [])) (fConsF [] (fLst fNil) fNil))))
    (fSeq (fFor (fItems (fVar 1)) (bName 5) (fSeq (fSto 3 (fC (.bl true)) (f2 cutU (fVar 5) (fC (.im (.num 2)))))
    (fFor (fItems (fCallD F__law_around (fCons (f2 cutU (fVar 5) (fC (.im (.num 2)))) fNil))) (bName 6) (fSto 3 (fC (.bl true)) (fVar 6)))))
    (fSeq (fFor (fItems (fSK (fVar 3))) (bName 6) (fSeq (fSet 7 [] (fCall lenU (fCons (fLc (fItems (fCallD F__law_around (fCons (fVar 6) fNil))) (bName 10) (fB (f2 eqU (f3 getU (fVar 2) (fVar 10) (fC (.im (.num 0)))) (fC (.im (.num 1))))) (fC (.im (.num 1))) [10]) fNil)))
    (fSeq (fSet 8 [] (f3 getU (fVar 2) (fVar 6) (fC (.im (.num 0)))))
    (fSeq (fIfS (fB (f2 eqU (fVar 8) (fC (.im (.num 0))))) (fSet 9 ([] ++ []) (fIf (fB (f2 inU (fVar 7) (f2 ixU (fVar 0) (fC (.im (.num 0)))))) (fC (.im (.num 1))) (fC (.im (.num 0))))) (fIfS (fAnd (fB (f2 eqU (fVar 8) (fC (.im (.num 1))))) (fB (f2 inU (fVar 7) (f2 ixU (fVar 0) (fC (.im (.num 1))))))) (fSet 9 [] (fC (.im (.num 1)))) (fSet 9 ([] ++ []) (fIf (fB (f2 ltU (f2 addU (fVar 8) (fC (.im (.num 1)))) (f2 ixU (fVar 0) (fC (.im (.num 2)))))) (f2 addU (fVar 8) (fC (.im (.num 1)))) (fC (.im (.num 0)))))))
    (fSet 4 ([] ++ [4]) (fIf (fB (f2 gtU (fVar 9) (fC (.im (.num 0))))) (f2 addU (fVar 4) (fLst (fCons (f2 addU (fVar 6) (fTup (fCons (fVar 9) fNil))) fNil))) (fVar 4)))))))
    (fRet [3] [] (fCall tupU (fCons (fVar 4) fNil))))))
def F__law_step : List U → Option U := runG 11 g__law_step
theorem d__law_step (C : Cs K mg) : DV P w K mg base 2 "_law_step" ["_law_rule", "_law_board"] F__law_step := dv_of (O := [3]) C.t__law_step sc__law_step (by decide) fun f cdv A outer s H E hr => by
  have hu := hr.units
  exact (svs_cons (sv_asgT rfl (tgs_cons (i := 2) sc__law_step.nd rfl (.inr rfl) (tgs_cons (i := 3) sc__law_step.nd rfl (.inl rfl) (tgs_cons (i := 4) sc__law_step.nd rfl (.inl rfl) tgs_nil))) (fv_cons (ev_callTy (ca_dict rfl hu) rfl C.b_dict (by decide +kernel) (av_cons (ev_lcW rfl sc__law_step.nd (iv_seq (ev_var 1 (pv 1))) (blkOk_by (N := n__law_step) (sc := defScope st__law_step) (own := [("_law_cell", 5)]) (by decide +kernel)) (fun _ _ _ _ _ => (gv_name 5 sc__law_step.nd rfl (.inl rfl))) (fun _ _ _ _ _ => tsv_nil) (fun _ _ _ _ _ => (ev_tup (av_cons (ev_cut (ev_var 5 (pv 5)) ev_int) (av_cons (ev_ix hu (ev_var 5 (pv 5)) ev_int) av_nil)))) (by decide)) av_nil)) (fv_cons ev_dnew (fv_cons (ev_lst av_nil) fv_nil))))
    (svs_cons (sv_for PassesOwn.never rfl (iv_seq (ev_var 1 (pv 1))) (gv_name 5 sc__law_step.nd rfl (.inl rfl)) (svs_cons (sv_sto (i := 3) hu (by decide) (pv 3) (ev_cut (ev_var 5 (pv 5)) ev_int) ev_bl)
    (svs_one (sv_for PassesOwn.never rfl (iv_seq (ev_call (d__law_around C) (hr.mono (by decide)) rfl (av_cons (ev_cut (ev_var 5 (pv 5)) ev_int) av_nil) len1)) (gv_name 6 sc__law_step.nd rfl (.inl rfl)) (svs_one (sv_sto (i := 3) hu (by decide) (pv 3) (ev_var 6 (pv 6)) ev_bl)) (by decide)))) (by decide))
    (svs_cons (sv_for PassesOwn.never rfl (iv_seq (ev_sortedKeys rfl hu rfl C.b_sorted (ev_var 3 (pv 3)))) (gv_name 6 sc__law_step.nd rfl (.inl rfl)) (svs_cons (sv_set 7 sc__law_step.nd rfl (.inl rfl) (ev_callB ca_len rfl C.b_len (by decide +kernel) (av_cons (ev_lcW rfl sc__law_step.nd (iv_seq (ev_call (d__law_around C) (hr.mono (by decide)) rfl (av_cons (ev_var 6 (pv 6)) av_nil) len1)) (blkOk_by (N := n__law_step) (sc := defScope st__law_step) (own := [("_law_one", 10)]) (by decide +kernel)) (fun _ _ _ _ _ => (gv_name 10 sc__law_step.nd rfl (.inl rfl))) (fun _ _ _ _ _ => (tsv_one (tv_cmp (ov_eq hu) (ev_get2 hu (ev_var 2 (pv 2)) (ev_var 10 (pv 10)) ev_int ⟨rfl, rfl, rfl, rfl⟩) ev_int (nomark _)))) (fun _ _ _ _ _ => ev_int) (by decide)) av_nil)))
    (svs_cons (sv_set 8 sc__law_step.nd rfl (.inl rfl) (ev_get2 hu (ev_var 2 (pv 2)) (ev_var 6 (pv 6)) ev_int ⟨rfl, rfl, rfl, rfl⟩))
    (svs_cons (sv_if (tv_cmp (ov_eq hu) (ev_var 8 (pv 8)) ev_int (nomark _)) (svs_one (sv_set 9 sc__law_step.nd rfl (.inl rfl) (ev_if (tv_cmp (ov_in hu) (ev_var 7 (pv 7)) (ev_ix hu (ev_var 0 (pv 0)) ev_int) rfl) ev_int ev_int))) (svs_one (sv_if (TW.tv (tw_and (tv_cmp (ov_eq hu) (ev_var 8 (pv 8)) ev_int (nomark _)) (tw_and1 (tv_cmp (ov_in hu) (ev_var 7 (pv 7)) (ev_ix hu (ev_var 0 (pv 0)) ev_int) rfl)))) (svs_one (sv_set 9 sc__law_step.nd rfl (.inl rfl) ev_int)) (svs_one (sv_set 9 sc__law_step.nd rfl (.inl rfl) (ev_if (tv_cmp (ov_lt hu) (ev_op ov_add (ev_var 8 (pv 8)) ev_int) (ev_ix hu (ev_var 0 (pv 0)) ev_int) (nomark _)) (ev_op ov_add (ev_var 8 (pv 8)) ev_int) ev_int))))))
    (svs_one (sv_set 4 sc__law_step.nd rfl (.inl rfl) (ev_if (tv_cmp (ov_gt hu) (ev_var 9 (pv 9)) ev_int (nomark _)) (ev_op ov_add (ev_var 4 (pv 4)) (ev_lst (av_cons (ev_op ov_add (ev_var 6 (pv 6)) (ev_tup (av_cons (ev_var 9 (pv 9)) av_nil))) av_nil))) (ev_var 4 (pv 4)))))))) (by decide))
    (svs_one (sv_ret (ev_callTy ca_tuple rfl C.b_tuple (by decide +kernel) (av_cons (ev_var 4 (pv 4)) av_nil)))))))
end
end VL

set_option Elab.async false
set_option linter.all false
set_option maxRecDepth 100000
set_option maxHeartbeats 1000000
/-! printed by gen.py: the walks of the plain defs. -/
namespace VL
open PySem L2 PyProof.Rows
section
variable {P : Program} {w : World} {K : PySem.W.Frag} {mg : Str → Option Value} {base : Heap}

/-! is_rule -/
def g_is_rule : Sh → Option Res := (fSeq (fIfS (fOr (fNot (fB (f1 (isiU "tuple") (fVar 0)))) (fB (f2 neU (fCall lenU (fCons (fVar 0) fNil)) (fC (.im (.num 3)))))) (fRet [] [] (fC (.bl false))) fNext)
    (fRet [] [] (fU (fAnd (fB (fCallD F_are_counts (fCons (f2 ixU (fVar 0) (fC (.im (.num 0)))) (fCons (fC (.im (.num 1))) fNil)))) (fB (fU (fAnd (fB (fCallD F_are_counts (fCons (f2 ixU (fVar 0) (fC (.im (.num 1)))) (fCons (fC (.im (.num 0))) fNil)))) (fB (fCallD F_is_in (fCons (f2 ixU (fVar 0) (fC (.im (.num 2)))) (fCons (fC (.im (.num 2))) (fCons (fC (.im (.num 6))) fNil))))))))))))
def F_is_rule : List U → Option U := runG 1 g_is_rule
theorem d_is_rule (C : Cs K mg) : DV P w K mg base 3 "is_rule" ["rule"] F_is_rule := dv_of (O := []) C.t_is_rule sc_is_rule (by decide) fun f cdv A outer s H E hr => by
  have hu := hr.units
  exact (svs_cons (sv_if (TW.tv (tw_or (tv_not (tv_val (ev_isi rfl C.b_isinstance (ev_var 0 (pv 0)) rfl C.b_tuple (T := "") (tn := "tuple") (by decide +kernel)))) (tw_or1 (tv_cmp (ov_ne hu) (ev_callB ca_len rfl C.b_len (by decide +kernel) (av_cons (ev_var 0 (pv 0)) av_nil)) ev_int (nomark _))))) (svs_one (sv_ret ev_bl)) svs_nil)
    (svs_one (sv_ret (ev_and (ev_call (d_are_counts C) (hr.mono (by decide)) rfl (av_cons (ev_ix hu (ev_var 0 (pv 0)) ev_int) (av_cons ev_int av_nil)) len2) (ev_and (ev_call (d_are_counts C) (hr.mono (by decide)) rfl (av_cons (ev_ix hu (ev_var 0 (pv 0)) ev_int) (av_cons ev_int av_nil)) len2) (ev_one (ev_call (d_is_in C) (hr.mono (by decide)) rfl (av_cons (ev_ix hu (ev_var 0 (pv 0)) ev_int) (av_cons ev_int (av_cons (ev_glob rfl C.c_MOST_STATES) av_nil))) len3)))))))

/-! is_cell -/
def g_is_cell : Sh → Option Res := (fSeq (fIfS (fOr (fNot (fB (f1 (isiU "tuple") (fVar 0)))) (fB (f2 neU (fCall lenU (fCons (fVar 0) fNil)) (fC (.im (.num 3)))))) (fRet [] [] (fC (.bl false))) fNext)
    (fRet [] [] (fU (fAnd (fB (fCallD F_is_move (fCons (f2 cutU (fVar 0) (fC (.im (.num 2)))) fNil))) (fB (fCallD F_is_in (fCons (f2 ixU (fVar 0) (fC (.im (.num 2)))) (fCons (fC (.im (.num 1))) (fCons (f2 subU (fC (.im (.num 6))) (fC (.im (.num 1)))) fNil)))))))))
def F_is_cell : List U → Option U := runG 1 g_is_cell
theorem d_is_cell (C : Cs K mg) : DV P w K mg base 3 "is_cell" ["cell"] F_is_cell := dv_of (O := []) C.t_is_cell sc_is_cell (by decide) fun f cdv A outer s H E hr => by
  have hu := hr.units
  exact (svs_cons (sv_if (TW.tv (tw_or (tv_not (tv_val (ev_isi rfl C.b_isinstance (ev_var 0 (pv 0)) rfl C.b_tuple (T := "") (tn := "tuple") (by decide +kernel)))) (tw_or1 (tv_cmp (ov_ne hu) (ev_callB ca_len rfl C.b_len (by decide +kernel) (av_cons (ev_var 0 (pv 0)) av_nil)) ev_int (nomark _))))) (svs_one (sv_ret ev_bl)) svs_nil)
    (svs_one (sv_ret (ev_and (ev_call (d_is_move C) (hr.mono (by decide)) rfl (av_cons (ev_cut (ev_var 0 (pv 0)) ev_int) av_nil) len1) (ev_one (ev_call (d_is_in C) (hr.mono (by decide)) rfl (av_cons (ev_ix hu (ev_var 0 (pv 0)) ev_int) (av_cons ev_int (av_cons (ev_op ov_sub (ev_glob rfl C.c_MOST_STATES) ev_int) av_nil))) len3))))))

/-! step_in -/
def g_step_in : Sh → Option Res := (fSeq (fDrop (fCallD F_need_small (fCons (fVar 1) fNil)))
    (fSeq (fSet 2 [] (fCallD F_board_of (fCons (fCallD F_next_cells (fCons (fVar 0) (fCons (fCallD F_cells_of (fCons (fVar 1) fNil)) fNil))) fNil)))
    (fSeq (fIfS (fAnd (fB (f2 neU (fVar 2) (fTup fNil))) (fB (fCallD F_is_beyond (fCons (fVar 2) fNil)))) (fun _ => none) fNext)
    (fRet [] [2] (fVar 2)))))
def F_step_in : List U → Option U := runG 3 g_step_in
theorem d_step_in (C : Cs K mg) : DV P w K mg base 3 "step_in" ["rule", "board"] F_step_in := dv_of (O := []) C.t_step_in sc_step_in (by decide) fun f cdv A outer s H E hr => by
  have hu := hr.units
  exact (svs_cons (sv_expr (ev_call (d_need_small C) (hr.mono (by decide)) rfl (av_cons (ev_var 1 (pv 1)) av_nil) len1))
    (svs_cons (sv_set 2 sc_step_in.nd rfl (.inl rfl) (ev_call (d_board_of C) (hr.mono (by decide)) rfl (av_cons (ev_call (d_next_cells C) (hr.mono (by decide)) rfl (av_cons (ev_var 0 (pv 0)) (av_cons (ev_call (d_cells_of C) (hr.mono (by decide)) rfl (av_cons (ev_var 1 (pv 1)) av_nil) len1) av_nil)) len2) av_nil) len1))
    (svs_cons (sv_if (TW.tv (tw_and (tv_cmp (ov_ne hu) (ev_var 2 (pv 2)) (ev_tup av_nil) (nomark _)) (tw_and1 (tv_val (ev_call (d_is_beyond C) (hr.mono (by decide)) rfl (av_cons (ev_var 2 (pv 2)) av_nil) len1))))) (svs_one sv_never) svs_nil)
    (svs_one (sv_ret (ev_var 2 (pv 2)))))))
end
end VL

set_option Elab.async false
set_option linter.all false
set_option maxRecDepth 100000
set_option maxHeartbeats 1000000
/-! printed by gen.py: the walks of the plain defs. -/
namespace VL
open PySem L2 PyProof.Rows
section
variable {P : Program} {w : World} {K : PySem.W.Frag} {mg : Str → Option Value} {base : Heap}

/-! need_rule -/
def g_need_rule : Sh → Option Res := (fIfS (fNot (fB (fCallD F_is_rule (fCons (fVar 0) fNil)))) (fun _ => none) fNext)
def F_need_rule : List U → Option U := runG 1 g_need_rule
theorem d_need_rule (C : Cs K mg) : DV P w K mg base 4 "need_rule" ["rule"] F_need_rule := dv_of (O := []) C.t_need_rule sc_need_rule (by decide) fun f cdv A outer s H E hr => by
  have hu := hr.units
  exact (svs_one (sv_if (tv_not (tv_val (ev_call (d_is_rule C) (hr.mono (by decide)) rfl (av_cons (ev_var 0 (pv 0)) av_nil) len1))) (svs_one sv_never) svs_nil))

/-! need_board -/
def g_need_board : Sh → Option Res := (fSeq (fIfS (fNot (fB (f1 (isiU "tuple") (fVar 0)))) (fun _ => none) fNext)
    (fFor (fEnum (fVar 0)) (bTup [1, 2]) (fIfS (fOr (fNot (fB (fCallD F_is_cell (fCons (fVar 2) fNil)))) (fAnd (fB (f2 gtU (fVar 1) (fC (.im (.num 0))))) (fB (f2 leU (f2 cutU (fVar 2) (fC (.im (.num 2)))) (f2 cutU (f2 ixU (fVar 0) (f2 subU (fVar 1) (fC (.im (.num 1))))) (fC (.im (.num 2)))))))) (fun _ => none) fNext)))
def F_need_board : List U → Option U := runG 3 g_need_board
theorem d_need_board (C : Cs K mg) : DV P w K mg base 4 "need_board" ["board"] F_need_board := dv_of (O := []) C.t_need_board sc_need_board (by decide) fun f cdv A outer s H E hr => by
  have hu := hr.units
  exact (svs_cons (sv_if (tv_not (tv_val (ev_isi rfl C.b_isinstance (ev_var 0 (pv 0)) rfl C.b_tuple (T := "") (tn := "tuple") (by decide +kernel)))) (svs_one sv_never) svs_nil)
    (svs_one (sv_for PassesOwn.never rfl (iv_enum rfl C.b_enumerate (ev_var 0 (pv 0))) (gv_tup rfl (tgs_cons (i := 1) sc_need_board.nd rfl (.inl rfl) (tgs_cons (i := 2) sc_need_board.nd rfl (.inl rfl) tgs_nil))) (svs_one (sv_if (TW.tv (tw_or (tv_not (tv_val (ev_call (d_is_cell C) (hr.mono (by decide)) rfl (av_cons (ev_var 2 (pv 2)) av_nil) len1))) (tw_or1 (TW.tv (tw_and (tv_cmp (ov_gt hu) (ev_var 1 (pv 1)) ev_int (nomark _)) (tw_and1 (tv_cmp (ov_le hu) (ev_cut (ev_var 2 (pv 2)) ev_int) (ev_cut (ev_ix hu (ev_var 0 (pv 0)) (ev_op ov_sub (ev_var 1 (pv 1)) ev_int)) ev_int) (nomark _)))))))) (svs_one sv_never) svs_nil)) (by decide))))

/-! phases_in -/
def g_phases_in : Sh → Option Res := (fSeq (fSet 3 [] (fLst (fCons (fVar 1) fNil)))
    (fSeq (fFor (fRng1 (fCons (f2 subU (fVar 2) (fC (.im (.num 1)))) fNil)) (bName 4) (fApp 3 (fCallD F_step_in (fCons (fVar 0) (fCons (f2 ixU (fVar 3) (f1 negU (fC (.im (.num 1))))) fNil)))))
    (fRet [3] [3] (fVar 3))))
def F_phases_in : List U → Option U := runG 5 g_phases_in
theorem d_phases_in (C : Cs K mg) : DV P w K mg base 4 "phases_in" ["rule", "board", "period"] F_phases_in := dv_of (O := [3]) C.t_phases_in sc_phases_in (by decide) fun f cdv A outer s H E hr => by
  have hu := hr.units
  exact (svs_cons (sv_set 3 sc_phases_in.nd rfl (.inl rfl) (ev_lst (av_cons (ev_var 1 (pv 1)) av_nil)))
    (svs_cons (sv_for PassesOwn.never rfl (iv_rng1 rfl C.b_range (av_cons (ev_op ov_sub (ev_var 2 (pv 2)) ev_int) av_nil)) (gv_name 4 sc_phases_in.nd rfl (.inl rfl)) (svs_one (sv_app (i := 3) (by decide) (pv 3) (ev_call (d_step_in C) (hr.mono (by decide)) rfl (av_cons (ev_var 0 (pv 0)) (av_cons (ev_ix hu (ev_var 3 (pv 3)) (ev_un ov_neg ev_int)) av_nil)) len2))) (by decide))
    (svs_one (sv_ret (ev_var 3 (pv 3))))))

/-! round_in -/
def g_round_in : Sh → Option Res := (fSeq (fUnp [3, 4] (fCallD F_normal_in (fCons (fVar 1) fNil)))
    (fSeq (fSet 5 [1] (fVar 1))
    (fSeq (fFor (fRng2 (fCons (fC (.im (.num 1))) (fCons (f2 addU (fVar 2) (fC (.im (.num 1)))) fNil))) (bName 6) (fSeq (fSet 5 [] (fCallD F_step_in (fCons (fVar 0) (fCons (fVar 5) fNil))))
    (fIfS (fB (f2 eqU (fCall lenU (fCons (fVar 5) fNil)) (fCall lenU (fCons (fVar 1) fNil)))) (fSeq (fUnp [7, 8] (fCallD F_normal_in (fCons (fVar 5) fNil)))
    (fIfS (fB (f2 eqU (fVar 7) (fVar 3))) (fRet [] [] (fTup (fCons (fVar 6) (fCons (fTup (fCons (f2 subU (f2 ixU (fVar 8) (fC (.im (.num 0)))) (f2 ixU (fVar 4) (fC (.im (.num 0))))) (fCons (f2 subU (f2 ixU (fVar 8) (fC (.im (.num 1)))) (f2 ixU (fVar 4) (fC (.im (.num 1))))) fNil))) fNil)))) fNext)) fNext)))
    (fRet [] [] (fC (.im .none))))))
def F_round_in : List U → Option U := runG 9 g_round_in
theorem d_round_in (C : Cs K mg) : DV P w K mg base 4 "round_in" ["rule", "board", "most"] F_round_in := dv_of (O := []) C.t_round_in sc_round_in (by decide) fun f cdv A outer s H E hr => by
  have hu := hr.units
  exact (svs_cons (sv_unp rfl (tgs_cons (i := 3) sc_round_in.nd rfl (.inl rfl) (tgs_cons (i := 4) sc_round_in.nd rfl (.inl rfl) tgs_nil)) (ev_call (d_normal_in C) (hr.mono (by decide)) rfl (av_cons (ev_var 1 (pv 1)) av_nil) len1))
    (svs_cons (sv_set 5 sc_round_in.nd rfl (.inl rfl) (ev_var 1 (pv 1)))
    (svs_cons (sv_for PassesOwn.never rfl (iv_rng2 rfl C.b_range (av_cons ev_int (av_cons (ev_op ov_add (ev_var 2 (pv 2)) ev_int) av_nil))) (gv_name 6 sc_round_in.nd rfl (.inl rfl)) (svs_cons (sv_set 5 sc_round_in.nd rfl (.inl rfl) (ev_call (d_step_in C) (hr.mono (by decide)) rfl (av_cons (ev_var 0 (pv 0)) (av_cons (ev_var 5 (pv 5)) av_nil)) len2))
    (svs_one (sv_if (tv_cmp (ov_eq hu) (ev_callB ca_len rfl C.b_len (by decide +kernel) (av_cons (ev_var 5 (pv 5)) av_nil)) (ev_callB ca_len rfl C.b_len (by decide +kernel) (av_cons (ev_var 1 (pv 1)) av_nil)) (nomark _)) (svs_cons (sv_unp rfl (tgs_cons (i := 7) sc_round_in.nd rfl (.inl rfl) (tgs_cons (i := 8) sc_round_in.nd rfl (.inl rfl) tgs_nil)) (ev_call (d_normal_in C) (hr.mono (by decide)) rfl (av_cons (ev_var 5 (pv 5)) av_nil) len1))
    (svs_one (sv_if (tv_cmp (ov_eq hu) (ev_var 7 (pv 7)) (ev_var 3 (pv 3)) (nomark _)) (svs_one (sv_ret (ev_tup (av_cons (ev_var 6 (pv 6)) (av_cons (ev_tup (av_cons (ev_op ov_sub (ev_ix hu (ev_var 8 (pv 8)) ev_int) (ev_ix hu (ev_var 4 (pv 4)) ev_int)) (av_cons (ev_op ov_sub (ev_ix hu (ev_var 8 (pv 8)) ev_int) (ev_ix hu (ev_var 4 (pv 4)) ev_int)) av_nil))) av_nil))))) svs_nil))) svs_nil))) (by decide))
    (svs_one (sv_ret ev_non)))))

/-! is_piece_shape -/
def g_is_piece_shape : Sh → Option Res := (fSeq (fIfS (fOr (fNot (fB (f1 (isiU "tuple") (fVar 0)))) (fOr (fB (f2 neU (fCall lenU (fCons (fVar 0) fNil)) (fC (.im (.num 3))))) (fNot (fB (fCallD F_is_in (fCons (f2 ixU (fVar 0) (fC (.im (.num 1)))) (fCons (fC (.im (.num 1))) (fCons (fC (.im (.num 240))) fNil)))))))) (fRet [] [] (fC (.bl false))) fNext)
    (fSeq (fIfS (fOr (fNot (fB (fCallD F_is_move (fCons (f2 ixU (fVar 0) (fC (.im (.num 2)))) fNil)))) (fOr (fNot (fB (f1 (isiU "tuple") (f2 ixU (fVar 0) (fC (.im (.num 0))))))) (fNot (fB (fChain leU leU (fC (.im (.num 1))) (fCall lenU (fCons (f2 ixU (fVar 0) (fC (.im (.num 0)))) fNil)) (fC (.im (.num 300)))))))) (fRet [] [] (fC (.bl false))) fNext)
    (fSeq (fDrop (fCallD F_need_board (fCons (f2 ixU (fVar 0) (fC (.im (.num 0)))) fNil)))
    (fRet [] [] (fC (.bl true))))))
def F_is_piece_shape : List U → Option U := runG 1 g_is_piece_shape
theorem d_is_piece_shape (C : Cs K mg) : DV P w K mg base 5 "is_piece_shape" ["piece"] F_is_piece_shape := dv_of (O := []) C.t_is_piece_shape sc_is_piece_shape (by decide) fun f cdv A outer s H E hr => by
  have hu := hr.units
  exact (svs_cons (sv_if (TW.tv (tw_or (tv_not (tv_val (ev_isi rfl C.b_isinstance (ev_var 0 (pv 0)) rfl C.b_tuple (T := "") (tn := "tuple") (by decide +kernel)))) (tw_or (tv_cmp (ov_ne hu) (ev_callB ca_len rfl C.b_len (by decide +kernel) (av_cons (ev_var 0 (pv 0)) av_nil)) ev_int (nomark _)) (tw_or1 (tv_not (tv_val (ev_call (d_is_in C) (hr.mono (by decide)) rfl (av_cons (ev_ix hu (ev_var 0 (pv 0)) ev_int) (av_cons ev_int (av_cons (ev_glob rfl C.c_MOST_PERIOD) av_nil))) len3))))))) (svs_one (sv_ret ev_bl)) svs_nil)
    (svs_cons (sv_if (TW.tv (tw_or (tv_not (tv_val (ev_call (d_is_move C) (hr.mono (by decide)) rfl (av_cons (ev_ix hu (ev_var 0 (pv 0)) ev_int) av_nil) len1))) (tw_or (tv_not (tv_val (ev_isi rfl C.b_isinstance (ev_ix hu (ev_var 0 (pv 0)) ev_int) rfl C.b_tuple (T := "") (tn := "tuple") (by decide +kernel)))) (tw_or1 (tv_not (tv_chain (ov_le hu) (ov_le hu) ev_int (ev_callB ca_len rfl C.b_len (by decide +kernel) (av_cons (ev_ix hu (ev_var 0 (pv 0)) ev_int) av_nil)) (ev_glob rfl C.c_MOST_SIZE))))))) (svs_one (sv_ret ev_bl)) svs_nil)
    (svs_cons (sv_try (svs_one (sv_expr (ev_call (d_need_board C) (hr.mono (by decide)) rfl (av_cons (ev_ix hu (ev_var 0 (pv 0)) ev_int) av_nil) len1))))
    (svs_one (sv_ret ev_bl)))))

/-! form_in -/
def g_form_in : Sh → Option Res := (fSeq (fSet 2 [] (fLst fNil))
    (fSeq (fFor (fItems (fCallD F_phases_in (fCons (fVar 0) (fCons (f2 ixU (fVar 1) (fC (.im (.num 0)))) (fCons (f2 ixU (fVar 1) (fC (.im (.num 1)))) fNil))))) (bName 3) (fFor (fRng1 (fCons (fC (.im (.num 8))) fNil)) (bName 4) (fApp 2 (f2 ixU (fCallD F_normal_in (fCons (fCallD F_turned_in (fCons (fVar 3) (fCons (fVar 4) fNil))) fNil)) (fC (.im (.num 0)))))))
    (fRet [2] [] (fCall minU (fCons (fVar 2) fNil)))))
def F_form_in : List U → Option U := runG 5 g_form_in
theorem d_form_in (C : Cs K mg) : DV P w K mg base 5 "form_in" ["rule", "piece"] F_form_in := dv_of (O := [2]) C.t_form_in sc_form_in (by decide) fun f cdv A outer s H E hr => by
  have hu := hr.units
  exact (svs_cons (sv_set 2 sc_form_in.nd rfl (.inl rfl) (ev_lst av_nil))
    (svs_cons (sv_for PassesOwn.never rfl (iv_seq (ev_call (d_phases_in C) (hr.mono (by decide)) rfl (av_cons (ev_var 0 (pv 0)) (av_cons (ev_ix hu (ev_var 1 (pv 1)) ev_int) (av_cons (ev_ix hu (ev_var 1 (pv 1)) ev_int) av_nil))) len3)) (gv_name 3 sc_form_in.nd rfl (.inl rfl)) (svs_one (sv_for PassesOwn.never rfl (iv_rng1 rfl C.b_range (av_cons ev_int av_nil)) (gv_name 4 sc_form_in.nd rfl (.inl rfl)) (svs_one (sv_app (i := 2) (by decide) (pv 2) (ev_ix hu (ev_call (d_normal_in C) (hr.mono (by decide)) rfl (av_cons (ev_call (d_turned_in C) (hr.mono (by decide)) rfl (av_cons (ev_var 3 (pv 3)) (av_cons (ev_var 4 (pv 4)) av_nil)) len2) av_nil) len1) ev_int))) (by decide))) (by decide))
    (svs_one (sv_ret (ev_callB (ca_min rfl hu) rfl C.b_min (by decide +kernel) (av_cons (ev_var 2 (pv 2)) av_nil))))))

/-! stills_in_box -/
def g_stills_in_box : Sh → Option Res := (fSeq (fDrop (fCallD F_need_rule (fCons (fVar 0) fNil)))
    (fSeq (fDrop (fCallD F_need_box (fCons (fVar 1) (fCons (fVar 2) (fCons (fC (.im (.num 1))) fNil)))))
    (fRet [] [] (fCall tupU (fCons (fCall srtU (fCons (fLc (fItems (fCallD F_boards_in (fCons (fVar 1) (fCons (fVar 2) fNil)))) (bName 3) (fB (f2 eqU (fCallD F_round_in (fCons (fVar 0) (fCons (fVar 3) (fCons (fC (.im (.num 1))) fNil)))) (fTup (fCons (fC (.im (.num 1))) (fCons (fTup (fCons (fC (.im (.num 0))) (fCons (fC (.im (.num 0))) fNil))) fNil))))) (fVar 3) [3]) fNil)) fNil)))))
def F_stills_in_box : List U → Option U := runG 4 g_stills_in_box
theorem d_stills_in_box (C : Cs K mg) : DV P w K mg base 5 "stills_in_box" ["rule", "wide", "high"] F_stills_in_box := dv_of (O := []) C.t_stills_in_box sc_stills_in_box (by decide) fun f cdv A outer s H E hr => by
  have hu := hr.units
  exact (svs_cons (sv_expr (ev_call (d_need_rule C) (hr.mono (by decide)) rfl (av_cons (ev_var 0 (pv 0)) av_nil) len1))
    (svs_cons (sv_expr (ev_call (d_need_box C) (hr.mono (by decide)) rfl (av_cons (ev_var 1 (pv 1)) (av_cons (ev_var 2 (pv 2)) (av_cons ev_int av_nil))) len3))
    (svs_one (sv_ret (ev_callTy ca_tuple rfl C.b_tuple (by decide +kernel) (av_cons (ev_callB (ca_sorted hu) rfl C.b_sorted (by decide +kernel) (av_cons (ev_lcW rfl sc_stills_in_box.nd (iv_seq (ev_call (d_boards_in C) (hr.mono (by decide)) rfl (av_cons (ev_var 1 (pv 1)) (av_cons (ev_var 2 (pv 2)) av_nil)) len2)) (blkOk_by (N := n_stills_in_box) (sc := defScope st_stills_in_box) (own := [("board", 3)]) (by decide +kernel)) (fun _ _ _ _ _ => (gv_name 3 sc_stills_in_box.nd rfl (.inl rfl))) (fun _ _ _ _ _ => (tsv_one (tv_cmp (ov_eq hu) (ev_call (d_round_in C) (hr.mono (by decide)) rfl (av_cons (ev_var 0 (pv 0)) (av_cons (ev_var 3 (pv 3)) (av_cons ev_int av_nil))) len3) (ev_tup (av_cons ev_int (av_cons (ev_tup (av_cons ev_int (av_cons ev_int av_nil))) av_nil))) (nomark _)))) (fun _ _ _ _ _ => (ev_var 3 (pv 3))) (by decide)) av_nil)) av_nil))))))

/-! is_piece -/
def g_is_piece : Sh → Option Res := (fSeq (fIfS (fOr (fNot (fB (fCallD F_is_piece_shape (fCons (fVar 1) fNil)))) (fNot (fB (fCallD F_need_states (fCons (fVar 0) (fCons (f2 ixU (fVar 1) (fC (.im (.num 0)))) fNil)))))) (fRet [] [] (fC (.bl false))) fNext)
    (fSeq (fSet 2 [] (f2 ixU (fCallD F_phases_in (fCons (fVar 0) (fCons (f2 ixU (fVar 1) (fC (.im (.num 0)))) (fCons (f2 addU (f2 ixU (fVar 1) (fC (.im (.num 1)))) (fC (.im (.num 1)))) fNil)))) (f1 negU (fC (.im (.num 1))))))
    (fRet [] [] (f2 eqU (fVar 2) (fCallD F_shifted_in (fCons (f2 ixU (fVar 1) (fC (.im (.num 0)))) (fCons (f2 ixU (fVar 1) (fC (.im (.num 2)))) fNil)))))))
def F_is_piece : List U → Option U := runG 3 g_is_piece
theorem d_is_piece (C : Cs K mg) : DV P w K mg base 6 "is_piece" ["rule", "piece"] F_is_piece := dv_of (O := []) C.t_is_piece sc_is_piece (by decide) fun f cdv A outer s H E hr => by
  have hu := hr.units
  exact (svs_cons (sv_if (TW.tv (tw_or (tv_not (tv_val (ev_call (d_is_piece_shape C) (hr.mono (by decide)) rfl (av_cons (ev_var 1 (pv 1)) av_nil) len1))) (tw_or1 (tv_not (tv_val (ev_call (d_need_states C) (hr.mono (by decide)) rfl (av_cons (ev_var 0 (pv 0)) (av_cons (ev_ix hu (ev_var 1 (pv 1)) ev_int) av_nil)) len2)))))) (svs_one (sv_ret ev_bl)) svs_nil)
    (svs_cons (sv_set 2 sc_is_piece.nd rfl (.inl rfl) (ev_ix hu (ev_call (d_phases_in C) (hr.mono (by decide)) rfl (av_cons (ev_var 0 (pv 0)) (av_cons (ev_ix hu (ev_var 1 (pv 1)) ev_int) (av_cons (ev_op ov_add (ev_ix hu (ev_var 1 (pv 1)) ev_int) ev_int) av_nil))) len3) (ev_un ov_neg ev_int)))
    (svs_one (sv_ret (ev_cmp (ov_eq hu) (ev_var 2 (pv 2)) (ev_call (d_shifted_in C) (hr.mono (by decide)) rfl (av_cons (ev_ix hu (ev_var 1 (pv 1)) ev_int) (av_cons (ev_ix hu (ev_var 1 (pv 1)) ev_int) av_nil)) len2) (nomark _))))))

/-! pieces_in_box -/
def g_pieces_in_box : Sh → Option Res := (fSeq (fDrop (fCallD F_need_rule (fCons (fVar 0) fNil)))
    (fSeq (fDrop (fCallD F_need_box (fCons (fVar 1) (fCons (fVar 2) (fCons (fVar 3) fNil)))))
    (fSeq (fSet 4 [] (fC (.dc [])))
    (fSeq (fFor (fItems (fCallD F_boards_in (fCons (fVar 1) (fCons (fVar 2) fNil)))) (bName 5) (fSeq (fSet 6 [] (fCallD F_round_in (fCons (fVar 0) (fCons (fVar 5) (fCons (fVar 3) fNil)))))
    (fIfS (fB (f1 notNU (fVar 6))) (fSeq (fSet 7 [] (fCallD F_form_in (fCons (fVar 0) (fCons (fTup (fCons (fVar 5) (fCons (f2 ixU (fVar 6) (fC (.im (.num 0)))) (fCons (f2 ixU (fVar 6) (fC (.im (.num 1)))) fNil)))) fNil))))
    (fIfS (fOr (fB (f2 ninU (fVar 7) (fVar 4))) (fB (f2 ltU (fTup (fCons (f2 ixU (fVar 6) (fC (.im (.num 0)))) (fCons (f2 ixU (fVar 6) (fC (.im (.num 1)))) fNil))) (f2 ixU (fVar 4) (fVar 7))))) (fSto 4 (fVar 6) (fVar 7)) fNext)) fNext)))
    (fRet [4] [] (fCall tupU (fCons (fLc (fItems (fSK (fVar 4))) (bName 7) fYes (f2 addU (fTup (fCons (fVar 7) fNil)) (fCallD F_round_in (fCons (fVar 0) (fCons (fVar 7) (fCons (fVar 3) fNil))))) [7]) fNil)))))))
def F_pieces_in_box : List U → Option U := runG 8 g_pieces_in_box
theorem d_pieces_in_box (C : Cs K mg) : DV P w K mg base 6 "pieces_in_box" ["rule", "wide", "high", "most"] F_pieces_in_box := dv_of (O := [4]) C.t_pieces_in_box sc_pieces_in_box (by decide) fun f cdv A outer s H E hr => by
  have hu := hr.units
  exact (svs_cons (sv_expr (ev_call (d_need_rule C) (hr.mono (by decide)) rfl (av_cons (ev_var 0 (pv 0)) av_nil) len1))
    (svs_cons (sv_expr (ev_call (d_need_box C) (hr.mono (by decide)) rfl (av_cons (ev_var 1 (pv 1)) (av_cons (ev_var 2 (pv 2)) (av_cons (ev_var 3 (pv 3)) av_nil))) len3))
    (svs_cons (sv_set 4 sc_pieces_in_box.nd rfl (.inl rfl) ev_dnew)
    (svs_cons (sv_for PassesOwn.never rfl (iv_seq (ev_call (d_boards_in C) (hr.mono (by decide)) rfl (av_cons (ev_var 1 (pv 1)) (av_cons (ev_var 2 (pv 2)) av_nil)) len2)) (gv_name 5 sc_pieces_in_box.nd rfl (.inl rfl)) (svs_cons (sv_set 6 sc_pieces_in_box.nd rfl (.inl rfl) (ev_call (d_round_in C) (hr.mono (by decide)) rfl (av_cons (ev_var 0 (pv 0)) (av_cons (ev_var 5 (pv 5)) (av_cons (ev_var 3 (pv 3)) av_nil))) len3))
    (svs_one (sv_if (tv_notN (ev_var 6 (pv 6))) (svs_cons (sv_set 7 sc_pieces_in_box.nd rfl (.inl rfl) (ev_call (d_form_in C) (hr.mono (by decide)) rfl (av_cons (ev_var 0 (pv 0)) (av_cons (ev_tup (av_cons (ev_var 5 (pv 5)) (av_cons (ev_ix hu (ev_var 6 (pv 6)) ev_int) (av_cons (ev_ix hu (ev_var 6 (pv 6)) ev_int) av_nil)))) av_nil)) len2))
    (svs_one (sv_if (TW.tv (tw_or (tv_cmp (ov_nin hu) (ev_var 7 (pv 7)) (ev_var 4 (pv 4)) rfl) (tw_or1 (tv_cmp (ov_lt hu) (ev_tup (av_cons (ev_ix hu (ev_var 6 (pv 6)) ev_int) (av_cons (ev_ix hu (ev_var 6 (pv 6)) ev_int) av_nil))) (ev_ix hu (ev_var 4 (pv 4)) (ev_var 7 (pv 7))) (nomark _))))) (svs_one (sv_sto (i := 4) hu (by decide) (pv 4) (ev_var 7 (pv 7)) (ev_var 6 (pv 6)))) svs_nil))) svs_nil))) (by decide))
    (svs_one (sv_ret (ev_callTy ca_tuple rfl C.b_tuple (by decide +kernel) (av_cons (ev_lcW rfl sc_pieces_in_box.nd (iv_seq (ev_sortedKeys rfl hu rfl C.b_sorted (ev_var 4 (pv 4)))) (blkOk_by (N := n_pieces_in_box) (sc := defScope st_pieces_in_box) (own := [("form", 7)]) (by decide +kernel)) (fun _ _ _ _ _ => (gv_name 7 sc_pieces_in_box.nd rfl (.inl rfl))) (fun _ _ _ _ _ => tsv_nil) (fun _ _ _ _ _ => (ev_op ov_add (ev_tup (av_cons (ev_var 7 (pv 7)) av_nil)) (ev_call (d_round_in C) (hr.mono (by decide)) rfl (av_cons (ev_var 0 (pv 0)) (av_cons (ev_var 7 (pv 7)) (av_cons (ev_var 3 (pv 3)) av_nil))) len3))) (by decide)) av_nil))))))))

/-! census_in -/
def g_census_in : Sh → Option Res := (fSeq (fSet 2 [] (fC (.dc [])))
    (fSeq (fFor (fItems (fVar 1)) (bName 3) (fSeq (fSet 4 [] (fCallD F_form_in (fCons (fVar 0) (fCons (fVar 3) fNil))))
    (fSto 2 (f2 addU (f3 getU (fVar 2) (fVar 4) (fC (.im (.num 0)))) (fC (.im (.num 1)))) (fVar 4))))
    (fRet [2] [] (fCall tupU (fCons (fLc (fItems (fSK (fVar 2))) (bName 4) fYes (fTup (fCons (fVar 4) (fCons (f2 ixU (fVar 2) (fVar 4)) fNil))) [4]) fNil)))))
def F_census_in : List U → Option U := runG 5 g_census_in
theorem d_census_in (C : Cs K mg) : DV P w K mg base 6 "census_in" ["rule", "pieces"] F_census_in := dv_of (O := [2]) C.t_census_in sc_census_in (by decide) fun f cdv A outer s H E hr => by
  have hu := hr.units
  exact (svs_cons (sv_set 2 sc_census_in.nd rfl (.inr rfl) ev_dnew)
    (svs_cons (sv_for PassesOwn.never rfl (iv_seq (ev_var 1 (pv 1))) (gv_name 3 sc_census_in.nd rfl (.inl rfl)) (svs_cons (sv_set 4 sc_census_in.nd rfl (.inl rfl) (ev_call (d_form_in C) (hr.mono (by decide)) rfl (av_cons (ev_var 0 (pv 0)) (av_cons (ev_var 3 (pv 3)) av_nil)) len2))
    (svs_one (sv_sto (i := 2) hu (by decide) (pv 2) (ev_var 4 (pv 4)) (ev_op ov_add (ev_get2 hu (ev_var 2 (pv 2)) (ev_var 4 (pv 4)) ev_int ⟨rfl, rfl, rfl, rfl⟩) ev_int)))) (by decide))
    (svs_one (sv_ret (ev_callTy ca_tuple rfl C.b_tuple (by decide +kernel) (av_cons (ev_lcW rfl sc_census_in.nd (iv_seq (ev_sortedKeys rfl hu rfl C.b_sorted (ev_var 2 (pv 2)))) (blkOk_by (N := n_census_in) (sc := defScope st_census_in) (own := [("form", 4)]) (by decide +kernel)) (fun _ _ _ _ _ => (gv_name 4 sc_census_in.nd rfl (.inl rfl))) (fun _ _ _ _ _ => tsv_nil) (fun _ _ _ _ _ => (ev_tup (av_cons (ev_var 4 (pv 4)) (av_cons (ev_ix hu (ev_var 2 (pv 2)) (ev_var 4 (pv 4))) av_nil)))) (by decide)) av_nil))))))

/-! need_piece -/
def g_need_piece : Sh → Option Res := (fIfS (fNot (fB (fCallD F_is_piece (fCons (fVar 0) (fCons (fVar 1) fNil))))) (fun _ => none) fNext)
def F_need_piece : List U → Option U := runG 2 g_need_piece
theorem d_need_piece (C : Cs K mg) : DV P w K mg base 7 "need_piece" ["rule", "piece"] F_need_piece := dv_of (O := []) C.t_need_piece sc_need_piece (by decide) fun f cdv A outer s H E hr => by
  have hu := hr.units
  exact (svs_one (sv_if (tv_not (tv_val (ev_call (d_is_piece C) (hr.mono (by decide)) rfl (av_cons (ev_var 0 (pv 0)) (av_cons (ev_var 1 (pv 1)) av_nil)) len2))) (svs_one sv_never) svs_nil))

/-! census -/
def g_census : Sh → Option Res := (fSeq (fDrop (fCallD F_need_rule (fCons (fVar 0) fNil)))
    (fSeq (fIfS (fOr (fNot (fB (f1 (isiU "tuple") (fVar 1)))) (fB (f2 neU (fLc (fItems (fVar 1)) (bName 2) (fNot (fB (fCallD F_is_piece (fCons (fVar 0) (fCons (fVar 2) fNil))))) (fVar 2) [2]) (fLst fNil)))) (fun _ => none) fNext)
    (fRet [] [] (fCallD F_census_in (fCons (fVar 0) (fCons (fVar 1) fNil))))))
def F_census : List U → Option U := runG 3 g_census
theorem d_census (C : Cs K mg) : DV P w K mg base 7 "census" ["rule", "pieces"] F_census := dv_of (O := []) C.t_census sc_census (by decide) fun f cdv A outer s H E hr => by
  have hu := hr.units
  exact (svs_cons (sv_expr (ev_call (d_need_rule C) (hr.mono (by decide)) rfl (av_cons (ev_var 0 (pv 0)) av_nil) len1))
    (svs_cons (sv_if (TW.tv (tw_or (tv_not (tv_val (ev_isi rfl C.b_isinstance (ev_var 1 (pv 1)) rfl C.b_tuple (T := "") (tn := "tuple") (by decide +kernel)))) (tw_or1 (tv_cmp (ov_ne hu) (ev_lcW rfl sc_census.nd (iv_seq (ev_var 1 (pv 1))) (blkOk_by (N := n_census) (sc := defScope st_census) (own := [("piece", 2)]) (by decide +kernel)) (fun _ _ _ _ _ => (gv_name 2 sc_census.nd rfl (.inl rfl))) (fun _ _ _ _ _ => (tsv_one (tv_not (tv_val (ev_call (d_is_piece C) (hr.mono (by decide)) rfl (av_cons (ev_var 0 (pv 0)) (av_cons (ev_var 2 (pv 2)) av_nil)) len2))))) (fun _ _ _ _ _ => (ev_var 2 (pv 2))) (by decide)) (ev_lst av_nil) (nomark _))))) (svs_one sv_never) svs_nil)
    (svs_one (sv_ret (ev_call (d_census_in C) (hr.mono (by decide)) rfl (av_cons (ev_var 0 (pv 0)) (av_cons (ev_var 1 (pv 1)) av_nil)) len2)))))

/-! form_of -/
def g_form_of : Sh → Option Res := (fSeq (fDrop (fCallD F_need_rule (fCons (fVar 0) fNil)))
    (fSeq (fDrop (fCallD F_need_piece (fCons (fVar 0) (fCons (fVar 1) fNil))))
    (fRet [] [] (fCallD F_form_in (fCons (fVar 0) (fCons (fVar 1) fNil))))))
def F_form_of : List U → Option U := runG 2 g_form_of
theorem d_form_of (C : Cs K mg) : DV P w K mg base 8 "form_of" ["rule", "piece"] F_form_of := dv_of (O := []) C.t_form_of sc_form_of (by decide) fun f cdv A outer s H E hr => by
  have hu := hr.units
  exact (svs_cons (sv_expr (ev_call (d_need_rule C) (hr.mono (by decide)) rfl (av_cons (ev_var 0 (pv 0)) av_nil) len1))
    (svs_cons (sv_expr (ev_call (d_need_piece C) (hr.mono (by decide)) rfl (av_cons (ev_var 0 (pv 0)) (av_cons (ev_var 1 (pv 1)) av_nil)) len2))
    (svs_one (sv_ret (ev_call (d_form_in C) (hr.mono (by decide)) rfl (av_cons (ev_var 0 (pv 0)) (av_cons (ev_var 1 (pv 1)) av_nil)) len2)))))
end
end VL

set_option Elab.async false
set_option linter.all false
set_option maxRecDepth 100000
set_option maxHeartbeats 400000
/-! VLu: evaluating the printed functions: data, orders, operators, loops. -/
namespace VL
open PySem L2 PyProof.Rows

def pD (p : Int × Int) : D := .tup [.num p.1, .num p.2]
abbrev Cell := Int × Int × Int
def cD (c : Cell) : D := .tup [.num c.1, .num c.2.1, .num c.2.2]
def bD (b : List Cell) : D := .tup (b.map cD)
def nD (ns : List Int) : D := .tup (ns.map .num)
theorem pD_inj {p q : Int × Int} (h : pD p = pD q) : p = q := by
  obtain ⟨a, b⟩ := p; obtain ⟨c, d⟩ := q
  unfold pD at h; simp at h; simp [h]
theorem cD_inj {p q : Cell} (h : cD p = cD q) : p = q := by
  obtain ⟨a, b, s⟩ := p; obtain ⟨c, d, t⟩ := q
  unfold cD at h; simp at h; simp [h]
theorem map_inj {α β : Type} {f : α → β} (hf : ∀ a b, f a = f b → a = b) : ∀ {xs ys : List α}, xs.map f = ys.map f → xs = ys
  | [], [], _ => rfl
  | [], _ :: _, h => by simp at h
  | _ :: _, [], h => by simp at h
  | x :: xs, y :: ys, h => by
    simp only [List.map_cons, List.cons.injEq] at h
    rw [hf x y h.1, map_inj hf h.2]
theorem bD_inj {a b : List Cell} (h : bD a = bD b) : a = b := by
  unfold bD at h
  exact map_inj (fun _ _ => cD_inj) (NestedKey.tup.inj h)

/-! ### depth -/
theorem depthAll_le {n : Nat} : ∀ {ds : List D}, (∀ d ∈ ds, d.depth ≤ n) → NestedKey.depthAll ds ≤ n
  | [], _ => by simp [NestedKey.depthAll]
  | d :: ds, h => by
    have h1 := h d List.mem_cons_self
    have h2 := depthAll_le (ds := ds) fun x hx => h x (List.mem_cons_of_mem _ hx)
    simp only [NestedKey.depthAll]
    omega
theorem depth_num (i : Int) : NestedKey.depth (.num i) ≤ 1 := by simp [NestedKey.depth]
theorem depth_tup {ds : List D} {n : Nat} (h : NestedKey.depthAll ds ≤ n) : NestedKey.depth (.tup ds) ≤ n + 1 := by simp only [NestedKey.depth]; omega
theorem depth_nums (ns : List Int) : NestedKey.depthAll (ns.map NestedKey.num) ≤ 1 := depthAll_le fun d hd => by
  obtain ⟨i, _, rfl⟩ := List.mem_map.mp hd
  exact depth_num i
theorem depth_nD (ns : List Int) : (nD ns).depth ≤ 2 := depth_tup (depth_nums ns)
theorem depth_pD (p : Int × Int) : (pD p).depth ≤ 2 := depth_nD [p.1, p.2]
theorem depth_cD (c : Cell) : (cD c).depth ≤ 2 := depth_nD [c.1, c.2.1, c.2.2]
theorem depth_bD (b : List Cell) : (bD b).depth ≤ 3 := depth_tup (depthAll_le fun d hd => by
  obtain ⟨i, _, rfl⟩ := List.mem_map.mp hd
  exact depth_cD i)
theorem mkTup_ok {ds : List D} (h : ∀ d ∈ ds, d.depth ≤ 7) (hl : ds.length ≤ 1000000) : mkTup ds = some (.im (.tup ds)) := by
  unfold mkTup
  rw [if_pos ⟨depthAll_le h, Nat.le_trans hl (by decide)⟩]
theorem mkLst_ok {ds : List D} (hl : ds.length ≤ 1000000) : mkLst ds = some (.ls ds) := by
  unfold mkLst
  rw [if_pos (Nat.le_trans hl (by decide))]
theorem tupU_ok {ds : List D} (h : ∀ d ∈ ds, d.depth ≤ 7) : tupU [.ls ds] = some (.im (.tup ds)) := by
  show (if NestedKey.depthAll ds ≤ 7 then some (U.im (.tup ds)) else none) = _
  rw [if_pos (depthAll_le h)]

/-! ### order -/
theorem datas_map : ∀ ns : List Int, NestedKey.datas (ns.map NestedKey.num) = ns.map PyData.int
  | [] => by simp only [List.map_nil, NestedKey.datas]
  | n :: ns => by simp only [List.map_cons, NestedKey.datas, NestedKey.data, datas_map ns]
theorem ltD_nums (xs ys : List Int) : ltD (nD xs) (nD ys) = decide (xs < ys) := by
  unfold ltD nD
  simp only [NestedKey.data]
  rw [PySem.W.dataLt_tuple, datas_map, datas_map]
  exact PySem.W.dataLt_ints xs ys
theorem alAll_nums : ∀ (xs ys : List Int), PySem.W.alikeAll (xs.map PyData.int) (ys.map PyData.int) = true
  | [], _ => by simp only [List.map_nil, PySem.W.alikeAll]
  | _ :: _, [] => by simp only [List.map_nil, List.map_cons, PySem.W.alikeAll]
  | x :: xs, y :: ys => by simp only [List.map_cons, PySem.W.alikeAll, PySem.W.alike, alAll_nums xs ys]; rfl
theorem alD_nums (xs ys : List Int) : alD (nD xs) (nD ys) = true := by
  unfold alD nD
  simp only [NestedKey.data, PySem.W.alike]
  rw [datas_map, datas_map]
  exact alAll_nums xs ys
theorem cD_nD (c : Cell) : cD c = nD [c.1, c.2.1, c.2.2] := rfl
theorem pD_nD (c : Int × Int) : pD c = nD [c.1, c.2] := rfl
theorem datas_cells : ∀ b : List Cell, NestedKey.datas (b.map cD) = b.map fun c => (cD c).data
  | [] => by simp only [List.map_nil, NestedKey.datas]
  | c :: b => by simp only [List.map_cons, NestedKey.datas, datas_cells b]
theorem alAll_cells : ∀ (a b : List Cell), PySem.W.alikeAll (a.map fun c => (cD c).data) (b.map fun c => (cD c).data) = true
  | [], _ => by simp only [List.map_nil, PySem.W.alikeAll]
  | _ :: _, [] => by simp only [List.map_nil, List.map_cons, PySem.W.alikeAll]
  | x :: xs, y :: ys => by
    simp only [List.map_cons, PySem.W.alikeAll, alAll_cells xs ys, Bool.and_true]
    exact alD_nums [x.1, x.2.1, x.2.2] [y.1, y.2.1, y.2.2]
theorem alD_bD (a b : List Cell) : alD (bD a) (bD b) = true := by
  unfold alD bD
  simp only [NestedKey.data, PySem.W.alike]
  rw [datas_cells, datas_cells]
  exact alAll_cells a b

/-! ### operators at data -/
theorem fVar_0 {a : Option U} {l : Sh} : fVar 0 (a :: l) = a := by unfold fVar; cases a <;> rfl
theorem fVar_s {a : Option U} {l : Sh} {i : Nat} : fVar (i + 1) (a :: l) = fVar i l := rfl
theorem addU_num (i j : Int) : addU (.im (.num i)) (.im (.num j)) = some (.im (.num (i + j))) := rfl
theorem subU_num (i j : Int) : subU (.im (.num i)) (.im (.num j)) = some (.im (.num (i - j))) := rfl
theorem negU_num (i : Int) : negU (.im (.num i)) = some (.im (.num (-i))) := rfl
theorem modU_num (i j : Int) (h : 0 < j) : modU (.im (.num i)) (.im (.num j)) = some (.im (.num (i % j))) := by show (if 0 < j then _ else none) = _; rw [if_pos h]
theorem eqU_im (a b : D) : eqU (.im a) (.im b) = some (.bl (decide (a = b))) := rfl
theorem eqU_ls (a b : List D) : eqU (.ls a) (.ls b) = some (.bl (decide (a = b))) := rfl
theorem eqU_bb (a b : Bool) : eqU (.bl a) (.bl b) = some (.bl (a == b)) := rfl
theorem neU_im (a b : D) : neU (.im a) (.im b) = some (.bl (!decide (a = b))) := rfl
theorem neU_ls (a b : List D) : neU (.ls a) (.ls b) = some (.bl (!decide (a = b))) := rfl
theorem neU_bl (a b : Bool) : neU (.bl a) (.bl b) = some (.bl (!(a == b))) := rfl
theorem ltU_im (a b : D) : ltU (.im a) (.im b) = if alD a b = true ∧ isNoneD a = false then some (.bl (ltD a b)) else none := rfl
theorem ltU_num (i j : Int) : ltU (.im (.num i)) (.im (.num j)) = some (.bl (decide (i < j))) := by
  rw [ltU_im, if_pos ⟨alD_num i j, rfl⟩, ltD_num]
theorem gtU_im (a b : D) : gtU (.im a) (.im b) = if alD a b = true ∧ isNoneD a = false then some (.bl (ltD b a)) else none := rfl
theorem gtU_num (i j : Int) : gtU (.im (.num i)) (.im (.num j)) = some (.bl (decide (j < i))) := by
  rw [gtU_im, if_pos ⟨alD_num i j, rfl⟩, ltD_num]
theorem leU_im (a b : D) : leU (.im a) (.im b) = if alD a b = true ∧ isNoneD a = false then some (.bl (!ltD b a)) else none := rfl
theorem leU_num (i j : Int) : leU (.im (.num i)) (.im (.num j)) = some (.bl (decide (i ≤ j))) := by
  rw [leU_im, if_pos ⟨alD_num i j, rfl⟩, ltD_num]
  congr 2
  by_cases h : i ≤ j
  · rw [decide_eq_false (by omega), decide_eq_true h]; rfl
  · rw [decide_eq_true (by omega), decide_eq_false h]; rfl
theorem geU_im (a b : D) : geU (.im a) (.im b) = if alD a b = true ∧ isNoneD a = false then some (.bl (!ltD a b)) else none := rfl
theorem geU_num (i j : Int) : geU (.im (.num i)) (.im (.num j)) = some (.bl (decide (j ≤ i))) := by
  rw [geU_im, if_pos ⟨alD_num i j, rfl⟩, ltD_num]
  congr 2
  by_cases h : j ≤ i
  · rw [decide_eq_false (by omega), decide_eq_true h]; rfl
  · rw [decide_eq_true (by omega), decide_eq_false h]; rfl
theorem atI_0 {α : Type} (a : α) (l : List α) : L2.atI (a :: l) 0 = some a := atI_nat (j := 0) rfl
theorem atI_1 {α : Type} (a b : α) (l : List α) : L2.atI (a :: b :: l) 1 = some b := atI_nat (j := 1) rfl
theorem atI_2 {α : Type} (a b c : α) (l : List α) : L2.atI (a :: b :: c :: l) 2 = some c := atI_nat (j := 2) rfl
theorem ixU_tup (ds : List D) (i : Int) : ixU (.im (.tup ds)) (.im (.num i)) = (L2.atI ds i).map .im := rfl
theorem ixU_ls (ds : List D) (i : Int) : ixU (.ls ds) (.im (.num i)) = (L2.atI ds i).map .im := rfl
theorem ixU_dc (kvs : List (D × W)) (k : List D) : ixU (.dc kvs) (.im (.tup k)) = (lookD kvs (.tup k)).map wU := rfl
theorem cutU_2 (ds : List D) : cutU (.im (.tup ds)) (.im (.num 2)) = some (.im (.tup (ds.take 2))) := by
  unfold cutU cutD
  show some (U.im (.tup (ds.take (HT.sIx ds.length ds.length (some ((2 : Nat) : Int)))))) = _
  rw [HT.sIx_nat]
  congr 3
  rcases Nat.le_total 2 ds.length with h | h
  · rw [Nat.min_eq_left h]
  · rw [Nat.min_eq_right h, List.take_of_length_le (Nat.le_refl _), List.take_of_length_le h]
theorem lenU_tup (ds : List D) : lenU [.im (.tup ds)] = some (.im (.num ds.length)) := rfl
theorem lenU_ls (ds : List D) : lenU [.ls ds] = some (.im (.num ds.length)) := rfl
theorem isB_bl (b : Bool) : isB (.bl b) = some b := rfl
theorem tupU_tup (ds : List D) : tupU [.im (.tup ds)] = some (.im (.tup ds)) := rfl
theorem listU_tup (ds : List D) : listU [.im (.tup ds)] = some (.ls ds) := rfl
theorem listU_ls (ds : List D) : listU [.ls ds] = some (.ls ds) := rfl
theorem intU_num (i : Int) : intU [.im (.num i)] = some (.im (.num i)) := rfl
theorem isN_tup (ds : List D) : isNU (.im (.tup ds)) = some (.bl false) := rfl
theorem isN_none : isNU (.im .none) = some (.bl true) := rfl
theorem notN_tup (ds : List D) : notNU (.im (.tup ds)) = some (.bl true) := rfl
theorem notN_none : notNU (.im .none) = some (.bl false) := rfl
theorem ims_im (d : D) (us : List U) : ims (.im d :: us) = (ims us).map (d :: ·) := rfl
theorem ims_nil : ims [] = some [] := rfl
theorem okAl_im (al : List Nat) (i : Nat) (d : D) : okAl al i (.im d) = true := rfl
theorem okAl_bl (al : List Nat) (i : Nat) (d : Bool) : okAl al i (.bl d) = true := rfl
theorem okAl_nil (i : Nat) (u : U) : okAl [] i u = true := by unfold okAl; simp
theorem okRt_im (O al : List Nat) (d : D) : okRt O al (.im d) = true := rfl
theorem okRt_bl (O al : List Nat) (d : Bool) : okRt O al (.bl d) = true := rfl
theorem okRt_nil (O : List Nat) (u : U) : okRt O [] u = true := by unfold okRt; simp
theorem mut_im (d : D) : mutU (.im d) = false := rfl
theorem mut_bl (d : Bool) : mutU (.bl d) = false := rfl
theorem mut_ls (d : List D) : mutU (.ls d) = true := rfl
theorem mut_dc (d : List (D × W)) : mutU (.dc d) = true := rfl
theorem map_or {o : Option α} {f : α → β} : o.map f = o.bind fun x => some (f x) := by cases o <;> rfl

/-! ### loops -/
/-- a for loop, by a relation of a plain state to the shadow -/
theorem loopV_rel {ι S : Type} {b : D → Sh → Option Sh} {g : Sh → Option Res} (e : ι → D) (R : S → Sh → Prop) (f : S → ι → S) : ∀ (is : List ι), (∀ i ∈ is, ∀ a τ, R a τ → ∃ τ1 τ2, b (e i) τ = some τ1 ∧ g τ1 = some (.nx τ2) ∧ R (f a i) τ2) →
    ∀ (a : S) (τ : Sh), R a τ → ∃ τ', loopV b g (is.map e) τ = some (.nx τ') ∧ R (is.foldl f a) τ'
  | [], _, a, τ, h => ⟨τ, rfl, h⟩
  | i :: is, hs, a, τ, h => by
    obtain ⟨τ1, τ2, h1, h2, h3⟩ := hs i List.mem_cons_self a τ h
    obtain ⟨τ', h4, h5⟩ := loopV_rel e R f is (fun j hj => hs j (List.mem_cons_of_mem _ hj)) (f a i) τ2 h3
    refine ⟨τ', ?_, h5⟩
    show ((b (e i) τ).bind fun τ1 => (g τ1).bind fun r => match r with
      | .nx τ' => loopV b g (is.map e) τ'
      | .rt u => some (.rt u)) = _
    rw [h1, Option.bind_some, h2, Option.bind_some]
    exact h4
/-- a list comprehension -/
theorem lcGo_map {ι : Type} {b : D → Sh → Option Sh} {ft : Sh → Option Bool} {fe : Sh → Option U} {τ : Sh} (e : ι → D) (c : ι → Bool) (o : ι → D) : ∀ (is : List ι), (∀ i ∈ is, ∃ τ1, b (e i) τ = some τ1 ∧ ft τ1 = some (c i) ∧ (c i = true → fe τ1 = some (.im (o i)))) →
    lcGo b ft fe τ (is.map e) = some ((is.filter c).map o)
  | [], _ => rfl
  | i :: is, hs => by
    obtain ⟨τ1, h1, h2, h3⟩ := hs i List.mem_cons_self
    have ih := lcGo_map e c o is fun j hj => hs j (List.mem_cons_of_mem _ hj)
    show ((b (e i) τ).bind fun τ1 => (ft τ1).bind fun c => if c = true then (fe τ1).bind fun u => match u with
      | .im x => (lcGo b ft fe τ (is.map e)).map (x :: ·)
      | _ => none
    else lcGo b ft fe τ (is.map e)) = _
    rw [h1, Option.bind_some, h2, Option.bind_some]
    cases hc : c i with
    | true =>
      rw [if_pos rfl, h3 hc, Option.bind_some]
      show (lcGo b ft fe τ (is.map e)).map (o i :: ·) = _
      rw [ih, List.filter_cons_of_pos hc]
      rfl
    | false =>
      rw [if_neg Bool.false_ne_true, ih, List.filter_cons_of_neg (by rw [hc]; exact Bool.false_ne_true)]
theorem lcGo_all {ι : Type} {b : D → Sh → Option Sh} {fe : Sh → Option U} {τ : Sh} (e : ι → D) (o : ι → D) (is : List ι) (h : ∀ i ∈ is, ∃ τ1, b (e i) τ = some τ1 ∧ fe τ1 = some (.im (o i))) : lcGo b fYes fe τ (is.map e) = some (is.map o) := by
  have q := lcGo_map (b := b) (ft := fYes) (fe := fe) (τ := τ) e (fun _ => true) o is fun i hi => by
    obtain ⟨τ1, h1, h2⟩ := h i hi
    exact ⟨τ1, h1, rfl, fun _ => h2⟩
  rw [q, List.filter_eq_self.mpr fun _ _ => rfl]
/-- a dict comprehension -/
theorem dcGo_map {ι : Type} {b : D → Sh → Option Sh} {ft : Sh → Option Bool} {fk fe : Sh → Option U} {τ : Sh} (e : ι → D) (c : ι → Bool) (k : ι → List D) (o : ι → D) : ∀ (is : List ι) (acc : List (D × W)), (∀ i ∈ is, ∃ τ1, b (e i) τ = some τ1 ∧ ft τ1 = some (c i) ∧ (c i = true → fk τ1 = some (.im (.tup (k i))) ∧ fe τ1 = some (.im (o i)))) →
    dcGo b ft fk fe τ (is.map e) acc = some ((is.filter c).foldl (fun acc i => stoD acc (.tup (k i)) (.k (o i))) acc)
  | [], _, _ => rfl
  | i :: is, acc, hs => by
    obtain ⟨τ1, h1, h2, h3⟩ := hs i List.mem_cons_self
    have ih := fun acc => dcGo_map (b := b) (ft := ft) (fk := fk) (fe := fe) (τ := τ) e c k o is acc fun j hj => hs j (List.mem_cons_of_mem _ hj)
    show ((b (e i) τ).bind fun τ1 => (ft τ1).bind fun c => if c = true then (fk τ1).bind fun k => (fe τ1).bind fun u => (wOf u).bind fun q => match k with
      | .im (.tup ks) => dcGo b ft fk fe τ (is.map e) (stoD acc (.tup ks) q)
      | _ => none
    else dcGo b ft fk fe τ (is.map e) acc) = _
    rw [h1, Option.bind_some, h2, Option.bind_some]
    cases hc : c i with
    | true =>
      rw [if_pos rfl, (h3 hc).1, Option.bind_some, (h3 hc).2, Option.bind_some]
      show dcGo b ft fk fe τ (is.map e) (stoD acc (.tup (k i)) (.k (o i))) = _
      rw [ih, List.filter_cons_of_pos hc]
      rfl
    | false =>
      rw [if_neg Bool.false_ne_true, ih, List.filter_cons_of_neg (by rw [hc]; exact Bool.false_ne_true)]
end VL

set_option Elab.async false
set_option linter.all false
set_option maxRecDepth 100000
set_option maxHeartbeats 400000
/-! VLv: boards in plain Lean: the step, moves and turns. -/
namespace VL
open PySem L2

abbrev Pl := Int × Int
def pl (c : Cell) : Pl := (c.1, c.2.1)
def plt (p q : Pl) : Prop := p.1 < q.1 ∨ (p.1 = q.1 ∧ p.2 < q.2)
instance (p q : Pl) : Decidable (plt p q) := by unfold plt; infer_instance
theorem plt_irr (p : Pl) : ¬ plt p p := by unfold plt; omega
theorem plt_asym {p q : Pl} (h : plt p q) : ¬ plt q p := by unfold plt at *; omega
theorem plt_trans {p q r : Pl} (h : plt p q) (k : plt q r) : plt p r := by unfold plt at *; omega
theorem plt_tri (p q : Pl) : plt p q ∨ p = q ∨ plt q p := by
  obtain ⟨a, b⟩ := p; obtain ⟨c, d⟩ := q
  unfold plt; simp only [Prod.mk.injEq]; omega
/-- lists that rise strictly and have the same members are equal -/
theorem rise_eq {α : Type} {R : α → α → Prop} (ir : ∀ a, ¬ R a a) (as : ∀ a b, R a b → ¬ R b a) : ∀ {xs ys : List α}, xs.Pairwise R → ys.Pairwise R → (∀ k, k ∈ xs ↔ k ∈ ys) → xs = ys
  | [], [], _, _, _ => rfl
  | [], y :: ys, _, _, h => absurd ((h y).mpr List.mem_cons_self) (by simp)
  | x :: xs, [], _, _, h => absurd ((h x).mp List.mem_cons_self) (by simp)
  | x :: xs, y :: ys, hx, hy, h => by
    rw [List.pairwise_cons] at hx hy
    have e : x = y := by
      rcases List.mem_cons.mp ((h x).mp List.mem_cons_self) with e | e
      · exact e
      · rcases List.mem_cons.mp ((h y).mpr List.mem_cons_self) with e' | e'
        · exact e'.symm
        · exact absurd (hy.1 x e) (as _ _ (hx.1 y e'))
    subst e
    rw [rise_eq ir as hx.2 hy.2 fun k => ⟨fun m => ?_, fun m => ?_⟩]
    · rcases List.mem_cons.mp ((h k).mp (List.mem_cons_of_mem _ m)) with e | e
      · subst e; exact absurd (hx.1 k m) (ir k)
      · exact e
    · rcases List.mem_cons.mp ((h k).mpr (List.mem_cons_of_mem _ m)) with e | e
      · subst e; exact absurd (hy.1 k m) (ir k)
      · exact e
def cLt (c d : Cell) : Prop := plt (pl c) (pl d)
instance (c d : Cell) : Decidable (cLt c d) := by unfold cLt; infer_instance
def IsB (b : List Cell) : Prop := b.Pairwise cLt
theorem IsB.ext {a b : List Cell} (ha : IsB a) (hb : IsB b) (h : ∀ c, c ∈ a ↔ c ∈ b) : a = b := rise_eq (R := cLt) (fun _ => plt_irr _) (fun _ _ => plt_asym) ha hb h
theorem pair_mem {α : Type} {R : α → α → Prop} : ∀ {l : List α}, l.Pairwise R → ∀ {a b : α}, a ∈ l → b ∈ l → a = b ∨ R a b ∨ R b a
  | [], _, _, _, h, _ => by simp at h
  | x :: l, hp, a, b, ha, hb => by
    rw [List.pairwise_cons] at hp
    rcases List.mem_cons.mp ha with e1 | h1
    · rcases List.mem_cons.mp hb with e2 | h2
      · exact .inl (e1.trans e2.symm)
      · subst e1; exact .inr (.inl (hp.1 b h2))
    · rcases List.mem_cons.mp hb with e2 | h2
      · subst e2; exact .inr (.inr (hp.1 a h1))
      · exact pair_mem hp.2 h1 h2
/-- one cell a place -/
theorem IsB.one {b : List Cell} (h : IsB b) {c d : Cell} (hc : c ∈ b) (hd : d ∈ b) (e : pl c = pl d) : c = d := by
  rcases pair_mem h hc hd with q | q | q
  · exact q
  · unfold cLt at q; rw [e] at q; exact absurd q (plt_irr _)
  · unfold cLt at q; rw [e] at q; exact absurd q (plt_irr _)
structure Good (b : List Cell) : Prop where
  is : IsB b
  pos : ∀ c ∈ b, 1 ≤ c.2.2
/-- the state at a place, 0 where no cell stands -/
def st (b : List Cell) (p : Pl) : Int := ((b.find? fun c => decide (pl c = p)).map (·.2.2)).getD 0
theorem st_at {b : List Cell} (h : IsB b) {c : Cell} (hc : c ∈ b) : st b (pl c) = c.2.2 := by
  unfold st
  cases e : b.find? fun d => decide (pl d = pl c) with
  | none =>
    have := List.find?_eq_none.mp e c hc
    simp at this
  | some d =>
    have h1 := List.mem_of_find?_eq_some e
    have h2 := List.find?_some e
    have : d = c := h.one h1 hc (of_decide_eq_true h2)
    rw [this]
    rfl
theorem st_out {b : List Cell} {p : Pl} (h : ∀ c ∈ b, pl c ≠ p) : st b p = 0 := by
  unfold st
  rw [List.find?_eq_none.mpr fun c hc => by simpa using h c hc]
  rfl
theorem st_cases {b : List Cell} (h : Good b) (p : Pl) : (st b p = 0 ∧ ∀ c ∈ b, pl c ≠ p) ∨ (1 ≤ st b p ∧ (p.1, p.2, st b p) ∈ b) := by
  by_cases q : ∃ c ∈ b, pl c = p
  · obtain ⟨c, hc, rfl⟩ := q
    rw [st_at h.is hc]
    exact .inr ⟨h.pos c hc, hc⟩
  · have q' : ∀ c ∈ b, pl c ≠ p := fun c hc e => q ⟨c, hc, e⟩
    exact .inl ⟨st_out q', q'⟩
theorem st_mem {b : List Cell} (h : Good b) {c : Cell} : c ∈ b ↔ 1 ≤ c.2.2 ∧ st b (pl c) = c.2.2 := by
  refine ⟨fun hc => ⟨h.pos c hc, st_at h.is hc⟩, fun ⟨h1, h2⟩ => ?_⟩
  rcases st_cases h (pl c) with ⟨e, _⟩ | ⟨_, m⟩
  · omega
  · rw [h2] at m
    exact m
theorem Good.ext {a b : List Cell} (ha : Good a) (hb : Good b) (h : ∀ p, st a p = st b p) : a = b := ha.is.ext hb.is fun c => by rw [st_mem ha, st_mem hb, h]

/-! ### a rule, the next state -/
structure Rule where
  bs : List Int
  ss : List Int
  n : Int
structure Rule.Ok (r : Rule) : Prop where
  b2 : ∀ k ∈ r.bs, 2 ≤ k ∧ k ≤ 8
  s0 : ∀ k ∈ r.ss, 0 ≤ k ∧ k ≤ 8
  asb : r.bs.Pairwise (· < ·)
  ass : r.ss.Pairwise (· < ·)
  n2 : 2 ≤ r.n
  n6 : r.n ≤ 6
def nbs : List Pl := [(-1, -1), (-1, 0), (-1, 1), (0, -1), (0, 1), (1, -1), (1, 0), (1, 1)]
def pad (p d : Pl) : Pl := (p.1 + d.1, p.2 + d.2)
def near (f : Pl → Int) (p : Pl) : Nat := nbs.countP fun d => decide (f (pad p d) = 1)
def nxt (r : Rule) (f : Pl → Int) (p : Pl) : Int :=
  if f p = 0 then (if (near f p : Int) ∈ r.bs then 1 else 0) else if f p = 1 ∧ (near f p : Int) ∈ r.ss then 1 else if f p + 1 < r.n then f p + 1 else 0
theorem near_zero {f : Pl → Int} {p : Pl} (h : ∀ d ∈ nbs, f (pad p d) ≠ 1) : near f p = 0 := by
  unfold near
  rw [List.countP_eq_zero]
  intro d hd
  simpa using h d hd
theorem nxt_far {r : Rule} (ok : r.Ok) {f : Pl → Int} {p : Pl} (h0 : f p = 0) (h : ∀ d ∈ nbs, f (pad p d) ≠ 1) : nxt r f p = 0 := by
  unfold nxt
  rw [if_pos h0, near_zero h, if_neg]
  intro q
  have := ok.b2 _ q
  simp at this
theorem nxt_nonneg {r : Rule} {f : Pl → Int} {p : Pl} (h : 0 ≤ f p) : 0 ≤ nxt r f p := by
  unfold nxt
  split
  · split <;> omega
  · split
    · omega
    · split <;> omega
theorem nbs_le {d : Pl} (h : d ∈ nbs) : -1 ≤ d.1 ∧ d.1 ≤ 1 ∧ -1 ≤ d.2 ∧ d.2 ≤ 1 := by
  simp only [nbs, List.mem_cons, List.not_mem_nil, or_false] at h
  rcases h with rfl | rfl | rfl | rfl | rfl | rfl | rfl | rfl <;> decide

/-! ### the step: a walk over the grid around the board -/
def grid (x0 y0 : Int) (w h : Nat) : List Pl := (List.range w).flatMap fun (i : Nat) => (List.range h).map fun (j : Nat) => (x0 + (i : Int), y0 + (j : Int))
theorem mem_grid {x0 y0 : Int} {w h : Nat} {p : Pl} : p ∈ grid x0 y0 w h ↔ x0 ≤ p.1 ∧ p.1 < x0 + w ∧ y0 ≤ p.2 ∧ p.2 < y0 + h := by
  obtain ⟨x, y⟩ := p
  simp only [grid, List.mem_flatMap, List.mem_map, List.mem_range, Prod.mk.injEq]
  constructor
  · rintro ⟨i, hi, j, hj, rfl, rfl⟩
    omega
  · rintro ⟨h1, h2, h3, h4⟩
    exact ⟨(x - x0).toNat, by omega, (y - y0).toNat, by omega, by omega, by omega⟩
theorem pairwise_range (n : Nat) : (List.range n).Pairwise (· < ·) := List.pairwise_lt_range
theorem rise_grid (x0 y0 : Int) (w h : Nat) : (grid x0 y0 w h).Pairwise plt := by
  unfold grid
  rw [List.pairwise_flatMap]
  refine ⟨fun i _ => ?_, ?_⟩
  · rw [List.pairwise_map]
    exact (pairwise_range h).imp fun {a b} q => Or.inr ⟨rfl, by show y0 + (a : Int) < y0 + (b : Int); omega⟩
  · refine (pairwise_range w).imp fun {a b} q => ?_
    intro x hx y hy
    obtain ⟨j, _, rfl⟩ := List.mem_map.mp hx
    obtain ⟨k, _, rfl⟩ := List.mem_map.mp hy
    exact Or.inl (by show x0 + (a : Int) < x0 + (b : Int); omega)
/-- least and greatest of f over the board -/
def mnF (f : Cell → Int) : List Cell → Int
  | [] => 0
  | c :: b => b.foldl (fun m d => min m (f d)) (f c)
def mxF (f : Cell → Int) : List Cell → Int
  | [] => 0
  | c :: b => b.foldl (fun m d => max m (f d)) (f c)
theorem fold_min {f : Cell → Int} : ∀ (b : List Cell) (m : Int), b.foldl (fun m d => min m (f d)) m ≤ m ∧ (∀ d ∈ b, b.foldl (fun m d => min m (f d)) m ≤ f d) ∧ (b.foldl (fun m d => min m (f d)) m = m ∨ ∃ d ∈ b, b.foldl (fun m d => min m (f d)) m = f d)
  | [], m => ⟨Int.le_refl _, fun _ h => by simp at h, .inl rfl⟩
  | c :: b, m => by
    obtain ⟨h1, h2, h3⟩ := fold_min b (min m (f c))
    simp only [List.foldl_cons]
    refine ⟨Int.le_trans h1 (Int.min_le_left _ _), fun d hd => ?_, ?_⟩
    · rcases List.mem_cons.mp hd with rfl | hd
      · exact Int.le_trans h1 (Int.min_le_right _ _)
      · exact h2 d hd
    · rcases h3 with h3 | ⟨d, hd, h3⟩
      · rcases Int.le_total m (f c) with q | q
        · exact Or.inl (h3.trans (Int.min_eq_left q))
        · exact Or.inr ⟨c, List.mem_cons_self, h3.trans (Int.min_eq_right q)⟩
      · right; exact ⟨d, List.mem_cons_of_mem _ hd, h3⟩
theorem fold_max {f : Cell → Int} : ∀ (b : List Cell) (m : Int), m ≤ b.foldl (fun m d => max m (f d)) m ∧ (∀ d ∈ b, f d ≤ b.foldl (fun m d => max m (f d)) m) ∧ (b.foldl (fun m d => max m (f d)) m = m ∨ ∃ d ∈ b, b.foldl (fun m d => max m (f d)) m = f d)
  | [], m => ⟨Int.le_refl _, fun _ h => by simp at h, .inl rfl⟩
  | c :: b, m => by
    obtain ⟨h1, h2, h3⟩ := fold_max b (max m (f c))
    simp only [List.foldl_cons]
    refine ⟨Int.le_trans (Int.le_max_left _ _) h1, fun d hd => ?_, ?_⟩
    · rcases List.mem_cons.mp hd with rfl | hd
      · exact Int.le_trans (Int.le_max_right _ _) h1
      · exact h2 d hd
    · rcases h3 with h3 | ⟨d, hd, h3⟩
      · rcases Int.le_total m (f c) with q | q
        · exact Or.inr ⟨c, List.mem_cons_self, h3.trans (Int.max_eq_right q)⟩
        · exact Or.inl (h3.trans (Int.max_eq_left q))
      · right; exact ⟨d, List.mem_cons_of_mem _ hd, h3⟩
theorem mnF_le {f : Cell → Int} {b : List Cell} {c : Cell} (h : c ∈ b) : mnF f b ≤ f c := by
  cases b with
  | nil => simp at h
  | cons d b =>
    obtain ⟨h1, h2, _⟩ := fold_min (f := f) b (f d)
    rcases List.mem_cons.mp h with rfl | h
    · exact h1
    · exact h2 c h
theorem le_mxF {f : Cell → Int} {b : List Cell} {c : Cell} (h : c ∈ b) : f c ≤ mxF f b := by
  cases b with
  | nil => simp at h
  | cons d b =>
    obtain ⟨h1, h2, _⟩ := fold_max (f := f) b (f d)
    rcases List.mem_cons.mp h with rfl | h
    · exact h1
    · exact h2 c h
theorem mnF_mem {f : Cell → Int} {b : List Cell} (h : b ≠ []) : ∃ c ∈ b, mnF f b = f c := by
  cases b with
  | nil => exact absurd rfl h
  | cons d b =>
    obtain ⟨_, _, h3⟩ := fold_min (f := f) b (f d)
    rcases h3 with h3 | ⟨c, hc, h3⟩
    · exact ⟨d, List.mem_cons_self, h3⟩
    · exact ⟨c, List.mem_cons_of_mem _ hc, h3⟩
theorem mxF_mem {f : Cell → Int} {b : List Cell} (h : b ≠ []) : ∃ c ∈ b, mxF f b = f c := by
  cases b with
  | nil => exact absurd rfl h
  | cons d b =>
    obtain ⟨_, _, h3⟩ := fold_max (f := f) b (f d)
    rcases h3 with h3 | ⟨c, hc, h3⟩
    · exact ⟨d, List.mem_cons_self, h3⟩
    · exact ⟨c, List.mem_cons_of_mem _ hc, h3⟩
def minx := mnF fun c => c.1
def miny := mnF fun c => c.2.1
def maxx := mxF fun c => c.1
def maxy := mxF fun c => c.2.1
def stepC (r : Rule) (f : Pl → Int) (p : Pl) : Option Cell := let s := nxt r f p; if 0 < s then some (p.1, p.2, s) else none
def step (r : Rule) (b : List Cell) : List Cell := match b with
  | [] => []
  | _ => (grid (minx b - 1) (miny b - 1) (maxx b - minx b + 3).toNat (maxy b - miny b + 3).toNat).filterMap (stepC r (st b))
theorem stepC_some {r : Rule} {f : Pl → Int} {p : Pl} {c : Cell} : stepC r f p = some c ↔ pl c = p ∧ nxt r f p = c.2.2 ∧ 1 ≤ c.2.2 := by
  obtain ⟨x, y, s⟩ := c
  obtain ⟨a, b⟩ := p
  unfold stepC pl
  simp only
  split
  · rename_i h
    simp only [Option.some.injEq, Prod.mk.injEq]
    constructor
    · rintro ⟨rfl, rfl, rfl⟩
      exact ⟨⟨rfl, rfl⟩, rfl, h⟩
    · rintro ⟨⟨rfl, rfl⟩, e, _⟩
      exact ⟨rfl, rfl, e⟩
  · rename_i h
    simp only [reduceCtorEq, Prod.mk.injEq, false_iff]
    rintro ⟨_, e, h1⟩
    rw [e] at h
    exact h h1
theorem rise_filterMap {r : Rule} {f : Pl → Int} : ∀ {l : List Pl}, l.Pairwise plt → IsB (l.filterMap (stepC r f))
  | [], _ => List.Pairwise.nil
  | p :: l, h => by
    rw [List.pairwise_cons] at h
    have ih := rise_filterMap (r := r) (f := f) h.2
    rw [List.filterMap_cons]
    split
    · exact ih
    · rename_i c e
      refine List.Pairwise.cons (fun d hd => ?_) ih
      obtain ⟨q, hq, e'⟩ := List.mem_filterMap.mp hd
      have h1 := (stepC_some.mp e).1
      have h2 := (stepC_some.mp e').1
      unfold cLt
      rw [h1, h2]
      exact h.1 q hq
theorem step_good (r : Rule) (b : List Cell) : Good (step r b) := by
  unfold step
  split
  · exact ⟨List.Pairwise.nil, fun c hc => by simp at hc⟩
  · refine ⟨rise_filterMap (rise_grid _ _ _ _), fun c hc => ?_⟩
    obtain ⟨p, _, e⟩ := List.mem_filterMap.mp hc
    exact (stepC_some.mp e).2.2
/-- a place with a next state lies near the board -/
theorem nxt_near {r : Rule} (ok : r.Ok) {b : List Cell} (hb : Good b) {p : Pl} (h : nxt r (st b) p ≠ 0) : ∃ c ∈ b, -1 ≤ p.1 - c.1 ∧ p.1 - c.1 ≤ 1 ∧ -1 ≤ p.2 - c.2.1 ∧ p.2 - c.2.1 ≤ 1 := by
  rcases st_cases hb p with ⟨e, no⟩ | ⟨_, m⟩
  · by_cases q : ∃ d ∈ nbs, st b (pad p d) = 1
    · obtain ⟨d, hd, e1⟩ := q
      rcases st_cases hb (pad p d) with ⟨e2, _⟩ | ⟨_, m⟩
      · omega
      · have := nbs_le hd
        refine ⟨_, m, ?_⟩
        unfold pad
        dsimp only
        omega
    · exact absurd (nxt_far ok e fun d hd e1 => q ⟨d, hd, e1⟩) h
  · exact ⟨_, m, by dsimp only; omega⟩
theorem mem_step {r : Rule} (ok : r.Ok) {b : List Cell} (hb : Good b) {c : Cell} : c ∈ step r b ↔ nxt r (st b) (pl c) = c.2.2 ∧ 1 ≤ c.2.2 := by
  constructor
  · intro h
    unfold step at h
    split at h
    · simp at h
    · obtain ⟨p, _, e⟩ := List.mem_filterMap.mp h
      obtain ⟨rfl, h2⟩ := stepC_some.mp e
      exact h2
  · rintro ⟨h1, h2⟩
    obtain ⟨d, hd, q⟩ := nxt_near ok hb (p := pl c) (by omega)
    unfold step
    split
    · simp at hd
    · refine List.mem_filterMap.mpr ⟨pl c, mem_grid.mpr ?_, stepC_some.mpr ⟨rfl, h1, h2⟩⟩
      have a1 : minx b ≤ d.1 := mnF_le (f := fun c => c.1) hd
      have a2 : d.1 ≤ maxx b := le_mxF (f := fun c => c.1) hd
      have a3 : miny b ≤ d.2.1 := mnF_le (f := fun c => c.2.1) hd
      have a4 : d.2.1 ≤ maxy b := le_mxF (f := fun c => c.2.1) hd
      unfold pl at q ⊢
      dsimp only at q ⊢
      omega
theorem st_step {r : Rule} (ok : r.Ok) {b : List Cell} (hb : Good b) (p : Pl) : st (step r b) p = nxt r (st b) p := by
  have h0 : 0 ≤ nxt r (st b) p := nxt_nonneg (by rcases st_cases hb p with ⟨e, _⟩ | ⟨e, _⟩ <;> omega)
  rcases st_cases (step_good r b) p with ⟨e, no⟩ | ⟨e, m⟩
  · rw [e]
    by_cases q : nxt r (st b) p = 0
    · exact q.symm
    · exact absurd rfl (no (p.1, p.2, nxt r (st b) p) ((mem_step ok hb).mpr ⟨rfl, by show 1 ≤ nxt r (st b) p; omega⟩))
  · exact ((mem_step ok hb).mp m).1.symm
end VL

set_option Elab.async false
set_option linter.all false
set_option maxRecDepth 100000
set_option maxHeartbeats 400000
/-! VLw: moves and turns of boards, steps in a row, sizes. -/
namespace VL
open PySem L2

def turnP : Nat → Pl → Pl
  | 1, p => (-p.2, p.1)
  | 2, p => (-p.1, -p.2)
  | 3, p => (p.2, -p.1)
  | 4, p => (-p.1, p.2)
  | 5, p => (-p.2, -p.1)
  | 6, p => (p.1, -p.2)
  | 7, p => (p.2, p.1)
  | _, p => p
def invT : Nat → Nat
  | 1 => 3
  | 3 => 1
  | t => t
theorem turn_cases {C : Nat → Prop} (t : Nat) (h0 : ∀ t, (∀ p, turnP t p = p) → C t) (h1 : C 1) (h2 : C 2) (h3 : C 3) (h4 : C 4) (h5 : C 5) (h6 : C 6) (h7 : C 7) : C t := by
  match t with
  | 0 => exact h0 0 fun _ => rfl
  | 1 => exact h1
  | 2 => exact h2
  | 3 => exact h3
  | 4 => exact h4
  | 5 => exact h5
  | 6 => exact h6
  | 7 => exact h7
  | t + 8 => exact h0 _ fun _ => rfl
def mvP (t : Nat) (m p : Pl) : Pl := ((turnP t p).1 + m.1, (turnP t p).2 + m.2)
def mv (t : Nat) (m : Pl) (c : Cell) : Cell := ((turnP t (pl c)).1 + m.1, (turnP t (pl c)).2 + m.2, c.2.2)
theorem pl_mv (t : Nat) (m : Pl) (c : Cell) : pl (mv t m c) = mvP t m (pl c) := rfl
theorem turn_pad (t : Nat) (p d : Pl) : turnP t (pad p d) = pad (turnP t p) (turnP t d) := by
  obtain ⟨a, b⟩ := p; obtain ⟨c, d⟩ := d
  refine turn_cases (C := fun t => turnP t (pad (a, b) (c, d)) = pad (turnP t (a, b)) (turnP t (c, d))) t (fun t h => by rw [h, h, h]) ?_ ?_ ?_ ?_ ?_ ?_ ?_ <;> (refine Prod.ext ?_ ?_ <;> simp only [turnP, pad] <;> omega)
theorem mvP_pad (t : Nat) (m p d : Pl) : mvP t m (pad p d) = pad (mvP t m p) (turnP t d) := by
  unfold mvP
  rw [turn_pad]
  unfold pad
  simp only [Prod.mk.injEq]
  omega
theorem nbs_turn (t : Nat) : (nbs.map (turnP t)).Perm nbs := by
  refine turn_cases (C := fun t => (nbs.map (turnP t)).Perm nbs) t (fun t h => ?_) ?_ ?_ ?_ ?_ ?_ ?_ ?_
  · have : turnP t = id := funext h
    rw [this, List.map_id]
  all_goals decide
theorem turn_inj (t : Nat) {p q : Pl} (h : turnP t p = turnP t q) : p = q := by
  obtain ⟨a, b⟩ := p; obtain ⟨c, d⟩ := q
  revert h
  refine turn_cases (C := fun t => turnP t (a, b) = turnP t (c, d) → (a, b) = (c, d)) t (fun t h => by rw [h, h]; exact id) ?_ ?_ ?_ ?_ ?_ ?_ ?_ <;> (simp only [turnP, Prod.mk.injEq]; omega)
theorem turn_inv (t : Nat) (p : Pl) : turnP t (turnP (invT t) p) = p := by
  obtain ⟨a, b⟩ := p
  match t with
  | 0 => rfl
  | 1 => simp [turnP, invT]
  | 2 => simp [turnP, invT]
  | 3 => simp [turnP, invT]
  | 4 => simp [turnP, invT]
  | 5 => simp [turnP, invT]
  | 6 => simp [turnP, invT]
  | 7 => simp [turnP, invT]
  | t + 8 => rfl
theorem mvP_inj {t : Nat} {m p q : Pl} (h : mvP t m p = mvP t m q) : p = q := by
  refine turn_inj t ?_
  unfold mvP at h
  simp only [Prod.mk.injEq] at h
  exact Prod.ext (by omega) (by omega)
theorem mvP_sur (t : Nat) (m p : Pl) : ∃ q, mvP t m q = p := by
  refine ⟨turnP (invT t) (p.1 - m.1, p.2 - m.2), ?_⟩
  unfold mvP
  rw [turn_inv]
  exact Prod.ext (by show p.1 - m.1 + m.1 = p.1; omega) (by show p.2 - m.2 + m.2 = p.2; omega)
/-- b' is b, turned by t and then moved by m -/
structure Mv (t : Nat) (m : Pl) (b b' : List Cell) : Prop where
  good : Good b'
  mem : ∀ c, c ∈ b' ↔ ∃ d ∈ b, c = mv t m d
theorem Mv.st {t : Nat} {m : Pl} {b b' : List Cell} (hb : Good b) (h : Mv t m b b') (p : Pl) : st b' (mvP t m p) = st b p := by
  rcases st_cases hb p with ⟨e, no⟩ | ⟨e, mm⟩
  · rw [e]
    refine st_out fun c hc q => ?_
    obtain ⟨d, hd, rfl⟩ := (h.mem c).mp hc
    rw [pl_mv] at q
    exact no d hd (mvP_inj q)
  · have h1 := (h.mem _).mpr ⟨_, mm, rfl⟩
    exact st_at h.good.is h1
theorem Mv.near {t : Nat} {m : Pl} {b b' : List Cell} (hb : Good b) (h : Mv t m b b') (p : Pl) : near (VL.st b') (mvP t m p) = near (VL.st b) p := by
  unfold VL.near
  rw [← (nbs_turn t).countP_eq, List.countP_map]
  congr 1
  funext d
  show decide (VL.st b' (pad (mvP t m p) (turnP t d)) = 1) = _
  rw [← mvP_pad, h.st hb]
theorem Mv.nxt {t : Nat} {m : Pl} {b b' : List Cell} (hb : Good b) (h : Mv t m b b') (r : Rule) (p : Pl) : nxt r (VL.st b') (mvP t m p) = nxt r (VL.st b) p := by
  unfold VL.nxt
  rw [h.st hb, h.near hb]
theorem Mv.step {t : Nat} {m : Pl} {b b' : List Cell} {r : Rule} (ok : r.Ok) (hb : Good b) (h : Mv t m b b') : Mv t m (step r b) (step r b') := by
  refine ⟨step_good r b', fun c => ?_⟩
  rw [mem_step ok h.good]
  obtain ⟨q, hq⟩ := mvP_sur t m (pl c)
  rw [← hq, h.nxt hb]
  constructor
  · rintro ⟨h1, h2⟩
    refine ⟨(q.1, q.2, c.2.2), (mem_step ok hb).mpr ⟨h1, h2⟩, ?_⟩
    have e : mvP t m q = pl c := hq
    unfold mvP pl at e
    simp only [Prod.mk.injEq] at e
    unfold mv
    exact Prod.ext e.1.symm (Prod.ext e.2.symm rfl)
  · rintro ⟨d, hd, e⟩
    obtain ⟨h1, h2⟩ := (mem_step ok hb).mp hd
    have e2 : c.2.2 = d.2.2 := by rw [e]; rfl
    have e3 : pl d = q := by
      have : mvP t m (pl d) = mvP t m q := by rw [hq, e]; rfl
      exact mvP_inj this
    rw [e2, ← e3]
    exact ⟨h1, h2⟩
/-! ### steps in a row -/
def stN (r : Rule) : Nat → List Cell → List Cell
  | 0, b => b
  | k + 1, b => step r (stN r k b)
theorem stN_good {r : Rule} {b : List Cell} (hb : Good b) : ∀ k, Good (stN r k b)
  | 0 => hb
  | k + 1 => step_good r _
theorem stN_add (r : Rule) (b : List Cell) (j : Nat) : ∀ i, stN r (i + j) b = stN r i (stN r j b)
  | 0 => by rw [Nat.zero_add]; rfl
  | i + 1 => by
    rw [Nat.add_right_comm]
    show step r (stN r (i + j) b) = step r (stN r i (stN r j b))
    rw [stN_add r b j i]
theorem stN_comm (r : Rule) (b : List Cell) (i j : Nat) : stN r i (stN r j b) = stN r j (stN r i b) := by
  rw [← stN_add, ← stN_add, Nat.add_comm]
theorem Mv.stN {t : Nat} {m : Pl} {b b' : List Cell} {r : Rule} (ok : r.Ok) (hb : Good b) (h : Mv t m b b') : ∀ k, Mv t m (stN r k b) (stN r k b')
  | 0 => h
  | k + 1 => (Mv.stN ok hb h k).step ok (stN_good hb k)
theorem mv_mv (t u : Nat) (m k : Pl) (c : Cell) (hu : u = 0) : mv t m (mv u k c) = mv 0 (turnP t k) (mv t m c) := by
  subst hu
  obtain ⟨x, y, s⟩ := c
  obtain ⟨a, b⟩ := k
  have h := turn_pad t (x, y) (a, b)
  unfold mv pl
  show ((turnP t (x + a, y + b)).1 + m.1, (turnP t (x + a, y + b)).2 + m.2, s) = ((turnP t (x, y)).1 + m.1 + (turnP t (a, b)).1, (turnP t (x, y)).2 + m.2 + (turnP t (a, b)).2, s)
  have h' : turnP t (x + a, y + b) = ((turnP t (x, y)).1 + (turnP t (a, b)).1, (turnP t (x, y)).2 + (turnP t (a, b)).2) := h
  rw [h']
  refine Prod.ext ?_ (Prod.ext ?_ rfl)
  · show (turnP t (x, y)).1 + (turnP t (a, b)).1 + m.1 = (turnP t (x, y)).1 + m.1 + (turnP t (a, b)).1; omega
  · show (turnP t (x, y)).2 + (turnP t (a, b)).2 + m.2 = (turnP t (x, y)).2 + m.2 + (turnP t (a, b)).2; omega
/-- a picture of a phase comes round in the same number of steps -/
theorem comes_round {r : Rule} (ok : r.Ok) {b f : List Cell} (hb : Good b) {k j t : Nat} {m n : Pl} (h1 : Mv 0 n b (VL.stN r k b)) (h2 : Mv t m (VL.stN r j b) f) : Mv 0 (turnP t n) f (VL.stN r k f) := by
  have g1 := h2.stN ok (stN_good hb j) k
  have g2 := h1.stN ok hb j
  rw [stN_comm] at g1
  refine ⟨stN_good h2.good k, fun c => ?_⟩
  rw [g1.mem]
  constructor
  · rintro ⟨y, hy, rfl⟩
    obtain ⟨x, hx, rfl⟩ := (g2.mem y).mp hy
    exact ⟨_, (h2.mem _).mpr ⟨x, hx, rfl⟩, mv_mv t 0 m n x rfl⟩
  · rintro ⟨y, hy, rfl⟩
    obtain ⟨x, hx, rfl⟩ := (h2.mem y).mp hy
    exact ⟨_, (g2.mem _).mpr ⟨x, hx, rfl⟩, (mv_mv t 0 m n x rfl).symm⟩
/-! ### shift, corner, normal form -/
def shift (m : Pl) (b : List Cell) : List Cell := b.map (mv 0 m)
theorem shift_is {m : Pl} {b : List Cell} (h : IsB b) : IsB (shift m b) := by
  unfold IsB shift
  rw [List.pairwise_map]
  refine h.imp fun {c d} q => ?_
  unfold cLt plt at *
  show c.1 + m.1 < d.1 + m.1 ∨ (c.1 + m.1 = d.1 + m.1 ∧ c.2.1 + m.2 < d.2.1 + m.2)
  have q : c.1 < d.1 ∨ (c.1 = d.1 ∧ c.2.1 < d.2.1) := q
  omega
theorem shift_mv {m : Pl} {b : List Cell} (h : Good b) : Mv 0 m b (shift m b) := by
  refine ⟨⟨shift_is h.is, fun c hc => ?_⟩, fun c => ?_⟩
  · obtain ⟨d, hd, rfl⟩ := List.mem_map.mp hc
    exact h.pos d hd
  · unfold shift
    rw [List.mem_map]
    constructor
    · rintro ⟨d, hd, rfl⟩; exact ⟨d, hd, rfl⟩
    · rintro ⟨d, hd, rfl⟩; exact ⟨d, hd, rfl⟩
def corner (b : List Cell) : Pl := (minx b, miny b)
def norm (b : List Cell) : List Cell := shift (-minx b, -miny b) b
theorem mn_shift {f : Cell → Int} {k : Int} {b b' : List Cell} (hn : b ≠ []) (h1 : ∀ c' ∈ b', ∃ c ∈ b, f c' = f c + k) (h2 : ∀ c ∈ b, ∃ c' ∈ b', f c' = f c + k) : mnF f b' = mnF f b + k := by
  obtain ⟨c, hc, e⟩ := mnF_mem (f := f) hn
  obtain ⟨c', hc', e'⟩ := h2 c hc
  have l1 := mnF_le (f := f) hc'
  have hn' : b' ≠ [] := by rintro rfl; simp at hc'
  obtain ⟨d', hd', e2⟩ := mnF_mem (f := f) hn'
  obtain ⟨d, hd, e3⟩ := h1 d' hd'
  have l2 := mnF_le (f := f) hd
  omega
theorem Mv.corner {m : Pl} {b b' : List Cell} (hn : b ≠ []) (h : Mv 0 m b b') : minx b' = minx b + m.1 ∧ miny b' = miny b + m.2 := by
  constructor
  · refine mn_shift hn (fun c' hc => ?_) fun c hc => ⟨_, (h.mem _).mpr ⟨c, hc, rfl⟩, rfl⟩
    obtain ⟨d, hd, rfl⟩ := (h.mem c').mp hc
    exact ⟨d, hd, rfl⟩
  · refine mn_shift hn (fun c' hc => ?_) fun c hc => ⟨_, (h.mem _).mpr ⟨c, hc, rfl⟩, rfl⟩
    obtain ⟨d, hd, rfl⟩ := (h.mem c').mp hc
    exact ⟨d, hd, rfl⟩
theorem mv0_mv0 (m n : Pl) (c : Cell) : mv 0 m (mv 0 n c) = mv 0 (n.1 + m.1, n.2 + m.2) c := by
  unfold mv
  refine Prod.ext ?_ (Prod.ext ?_ rfl)
  · show c.1 + n.1 + m.1 = c.1 + (n.1 + m.1); omega
  · show c.2.1 + n.2 + m.2 = c.2.1 + (n.2 + m.2); omega
theorem mv0_zero (c : Cell) : mv 0 (0, 0) c = c := by
  unfold mv
  refine Prod.ext ?_ (Prod.ext ?_ rfl)
  · show c.1 + 0 = c.1; omega
  · show c.2.1 + 0 = c.2.1; omega
theorem Mv.is_shift {m : Pl} {b b' : List Cell} (hb : Good b) (h : Mv 0 m b b') : b' = shift m b := h.good.is.ext (shift_is hb.is) fun c => by rw [h.mem, (shift_mv hb).mem]
theorem shift_shift (m n : Pl) (b : List Cell) : shift m (shift n b) = shift (n.1 + m.1, n.2 + m.2) b := by
  unfold shift
  rw [List.map_map]
  exact List.map_congr_left fun c _ => mv0_mv0 m n c
theorem norm_mv {b : List Cell} (h : Good b) : Mv 0 (-minx b, -miny b) b (norm b) := shift_mv h
theorem norm_shift {m : Pl} {b b' : List Cell} (hb : Good b) (h : Mv 0 m b b') : norm b' = norm b := by
  by_cases hn : b = []
  · subst hn
    have : b' = [] := List.eq_nil_iff_forall_not_mem.mpr fun c hc => by
      obtain ⟨d, hd, _⟩ := (h.mem c).mp hc
      simp at hd
    rw [this]
  · obtain ⟨h1, h2⟩ := h.corner hn
    have e := h.is_shift hb
    unfold norm
    rw [h1, h2, e, shift_shift]
    congr 2
    · show m.1 + -(minx b + m.1) = -minx b; omega
    · show m.2 + -(miny b + m.2) = -miny b; omega
theorem shift_zero (b : List Cell) : shift (0, 0) b = b := by
  unfold shift
  rw [List.map_congr_left fun c _ => mv0_zero c, List.map_id']
theorem mv_of_norm {b b' : List Cell} (hb : Good b) (hb' : Good b') (h : norm b' = norm b) : Mv 0 (minx b' - minx b, miny b' - miny b) b b' := by
  have e : b' = shift (minx b' - minx b, miny b' - miny b) b := by
    have q : shift (minx b', miny b') (norm b') = shift (minx b', miny b') (norm b) := by rw [h]
    unfold norm at q
    rw [shift_shift, shift_shift] at q
    have z : ((-minx b' + minx b', -miny b' + miny b') : Pl) = (0, 0) := Prod.ext (by show -minx b' + minx b' = 0; omega) (by show -miny b' + miny b' = 0; omega)
    have z2 : ((-minx b + minx b', -miny b + miny b') : Pl) = (minx b' - minx b, miny b' - miny b) := Prod.ext (by show -minx b + minx b' = minx b' - minx b; omega) (by show -miny b + miny b' = miny b' - miny b; omega)
    have z' : shift (-minx b' + minx b', -miny b' + miny b') b' = b' := by rw [z, shift_zero]
    rw [← z2]
    exact z'.symm.trans q
  have g := shift_mv (m := (minx b' - minx b, miny b' - miny b)) hb
  rw [← e] at g
  exact g
theorem norm_len (b : List Cell) : (norm b).length = b.length := by unfold norm shift; rw [List.length_map]
theorem norm_corner {b : List Cell} (hb : Good b) (hn : b ≠ []) : minx (norm b) = 0 ∧ miny (norm b) = 0 := by
  obtain ⟨h1, h2⟩ := (norm_mv hb).corner hn
  exact ⟨by rw [h1]; show minx b + -minx b = 0; omega, by rw [h2]; show miny b + -miny b = 0; omega⟩
theorem norm_norm {b : List Cell} (hb : Good b) : norm (norm b) = norm b := norm_shift hb (norm_mv hb)
end VL

set_option Elab.async false
set_option linter.all false
set_option maxRecDepth 100000
set_option maxHeartbeats 400000
/-! VLx: sizes: a box around a board, the eight-sided region of the search. -/
namespace VL
open PySem L2

theorem nodup_le {α : Type} [DecidableEq α] : ∀ {l m : List α}, l.Nodup → (∀ x ∈ l, x ∈ m) → l.length ≤ m.length
  | [], _, _, _ => Nat.zero_le _
  | x :: l, m, h, s => by
    rw [List.nodup_cons] at h
    have hx : x ∈ m := s x List.mem_cons_self
    have ih := nodup_le (l := l) (m := m.erase x) h.2 fun y hy => (List.mem_erase_of_ne (by rintro rfl; exact h.1 hy)).mpr (s y (List.mem_cons_of_mem _ hy))
    rw [List.length_erase_of_mem hx] at ih
    have : 0 < m.length := List.length_pos_of_mem hx
    rw [List.length_cons]
    omega
theorem places_nodup {b : List Cell} (h : IsB b) : (b.map pl).Nodup := by
  unfold List.Nodup
  rw [List.pairwise_map]
  refine h.imp fun {c d} q e => ?_
  unfold cLt at q
  rw [e] at q
  exact plt_irr _ q
theorem len_le {b : List Cell} (h : IsB b) {ps : List Pl} (hs : ∀ c ∈ b, pl c ∈ ps) : b.length ≤ ps.length := by
  have := nodup_le (places_nodup h) fun x hx => by
    obtain ⟨c, hc, rfl⟩ := List.mem_map.mp hx
    exact hs c hc
  rw [List.length_map] at this
  exact this
theorem grid_len (x0 y0 : Int) (w h : Nat) : (grid x0 y0 w h).length = w * h := by
  unfold grid
  rw [List.length_flatMap]
  simp only [List.length_map, List.length_range]
  induction w with
  | zero => simp
  | succ n ih =>
    rw [List.range_succ, List.map_append, List.sum_append, ih]
    simp [Nat.succ_mul]
def InB (x0 y0 n : Int) (b : List Cell) : Prop := ∀ c ∈ b, x0 ≤ c.1 ∧ c.1 < x0 + n ∧ y0 ≤ c.2.1 ∧ c.2.1 < y0 + n
theorem inb_len {x0 y0 : Int} {n : Nat} {b : List Cell} (h : IsB b) (q : InB x0 y0 n b) : b.length ≤ n * n := by
  rw [← grid_len x0 y0 n n]
  exact len_le h fun c hc => by
    have := q c hc
    exact mem_grid.mpr this
/-- a cell of the next board lies at a cell, or beside one in state 1, of which there are as many as a birth asks -/
theorem step_from {r : Rule} (ok : r.Ok) {b : List Cell} (hb : Good b) {c : Cell} (hc : c ∈ step r b) : (∃ d ∈ b, pl d = pl c) ∨ (st b (pl c) = 0 ∧ (near (st b) (pl c) : Int) ∈ r.bs) := by
  have h := (mem_step ok hb).mp hc
  rcases st_cases hb (pl c) with ⟨e, _⟩ | ⟨_, m⟩
  · right
    refine ⟨e, ?_⟩
    have h1 := h.1
    unfold nxt at h1
    rw [if_pos e] at h1
    split at h1
    · assumption
    · omega
  · exact .inl ⟨_, m, rfl⟩
theorem near_some {f : Pl → Int} {p : Pl} (h : 1 ≤ near f p) : ∃ d ∈ nbs, f (pad p d) = 1 := by
  unfold near at h
  obtain ⟨d, hd, e⟩ := List.countP_pos_iff.mp h
  exact ⟨d, hd, of_decide_eq_true e⟩
theorem near_one {f : Pl → Int} {p d0 : Pl} (h : ∀ d ∈ nbs, f (pad p d) = 1 → d = d0) : near f p ≤ 1 := by
  unfold near
  refine Nat.le_trans (List.countP_mono_left (q := fun d => d == d0) fun d hd e => ?_) ?_
  · simp only [beq_iff_eq]
    exact h d hd (of_decide_eq_true e)
  · have nd : nbs.Nodup := by decide
    exact List.nodup_iff_count.mp nd d0
theorem st_one_mem {b : List Cell} (hb : Good b) {p : Pl} (h : st b p = 1) : ∃ c ∈ b, pl c = p := by
  rcases st_cases hb p with ⟨e, _⟩ | ⟨_, m⟩
  · omega
  · exact ⟨_, m, rfl⟩
theorem step_beside {r : Rule} (ok : r.Ok) {b : List Cell} (hb : Good b) {c : Cell} (hc : c ∈ step r b) : ∃ d ∈ b, -1 ≤ c.1 - d.1 ∧ c.1 - d.1 ≤ 1 ∧ -1 ≤ c.2.1 - d.2.1 ∧ c.2.1 - d.2.1 ≤ 1 := by
  have h := (mem_step ok hb).mp hc
  exact nxt_near ok hb (p := pl c) (by omega)
theorem InB.step {r : Rule} (ok : r.Ok) {b : List Cell} (hb : Good b) {x0 y0 n : Int} (h : InB x0 y0 n b) : InB (x0 - 1) (y0 - 1) (n + 2) (step r b) := fun c hc => by
  obtain ⟨d, hd, q⟩ := step_beside ok hb hc
  have := h d hd
  omega
/-- it lies in a box of n by n whose corner is within k of the origin -/
def Sm (k n : Int) (b : List Cell) : Prop := ∃ x0 y0, -k ≤ x0 ∧ x0 ≤ k ∧ -k ≤ y0 ∧ y0 ≤ k ∧ InB x0 y0 n b
theorem Sm.step {r : Rule} (ok : r.Ok) {b : List Cell} (hb : Good b) {k n : Int} (h : Sm k n b) : Sm (k + 1) (n + 2) (step r b) := by
  obtain ⟨x0, y0, h1, h2, h3, h4, q⟩ := h
  exact ⟨x0 - 1, y0 - 1, by omega, by omega, by omega, by omega, q.step ok hb⟩
theorem Sm.stN {r : Rule} (ok : r.Ok) {b : List Cell} (hb : Good b) {k n : Int} (h : Sm k n b) : ∀ i : Nat, Sm (k + i) (n + 2 * i) (stN r i b)
  | 0 => by
    have e1 : k + ((0 : Nat) : Int) = k := by omega
    have e2 : n + 2 * ((0 : Nat) : Int) = n := by omega
    rw [e1, e2]
    exact h
  | i + 1 => by
    have q := (Sm.stN ok hb h i).step ok (stN_good hb i)
    have e1 : k + ((i + 1 : Nat) : Int) = k + i + 1 := by omega
    have e2 : n + 2 * ((i + 1 : Nat) : Int) = n + 2 * i + 2 := by omega
    rw [e1, e2]
    exact q
theorem Sm.le {k n k' n' : Int} {b : List Cell} (h : Sm k n b) (hk : k ≤ k') (hn : n ≤ n') : Sm k' n' b := by
  obtain ⟨x0, y0, h1, h2, h3, h4, q⟩ := h
  exact ⟨x0, y0, by omega, by omega, by omega, by omega, fun c hc => by have := q c hc; omega⟩
theorem Sm.mv {t : Nat} {m : Pl} {b b' : List Cell} {k n j : Int} (hn : 1 ≤ n) (h : Sm k n b) (g : Mv t m b b') (h1 : -j ≤ m.1 ∧ m.1 ≤ j) (h2 : -j ≤ m.2 ∧ m.2 ≤ j) : Sm (k + n + j) n b' := by
  obtain ⟨x0, y0, a1, a2, a3, a4, q⟩ := h
  have q' : ∀ c' ∈ b', ∃ c ∈ b, c'.1 = (turnP t (pl c)).1 + m.1 ∧ c'.2.1 = (turnP t (pl c)).2 + m.2 := fun c' hc => by
    obtain ⟨c, hcb, rfl⟩ := (g.mem c').mp hc
    exact ⟨c, hcb, rfl, rfl⟩
  have cover : ∀ (f : Pl → Pl) (X Y : Int), turnP t = f → -(k + n) ≤ X → X ≤ k + n → -(k + n) ≤ Y → Y ≤ k + n → (∀ c ∈ b, X ≤ (f (pl c)).1 ∧ (f (pl c)).1 < X + n ∧ Y ≤ (f (pl c)).2 ∧ (f (pl c)).2 < Y + n) → Sm (k + n + j) n b' := fun f X Y hf b1 b2 b3 b4 hc => by
    refine ⟨X + m.1, Y + m.2, by omega, by omega, by omega, by omega, fun c' hc' => ?_⟩
    obtain ⟨c, hcb, e1, e2⟩ := q' c' hc'
    have := hc c hcb
    rw [hf] at e1 e2
    omega
  revert q' cover
  refine turn_cases (C := fun t => (∀ c' ∈ b', ∃ c ∈ b, c'.1 = (turnP t (pl c)).1 + m.1 ∧ c'.2.1 = (turnP t (pl c)).2 + m.2) → (∀ (f : Pl → Pl) (X Y : Int), turnP t = f → -(k + n) ≤ X → X ≤ k + n → -(k + n) ≤ Y → Y ≤ k + n → (∀ c ∈ b, X ≤ (f (pl c)).1 ∧ (f (pl c)).1 < X + n ∧ Y ≤ (f (pl c)).2 ∧ (f (pl c)).2 < Y + n) → Sm (k + n + j) n b') → Sm (k + n + j) n b') t ?_ ?_ ?_ ?_ ?_ ?_ ?_ ?_
  · intro t ht _ cover
    exact cover id x0 y0 (funext ht) (by omega) (by omega) (by omega) (by omega) fun c hc => by have := q c hc; simp only [id, pl]; omega
  · intro _ cover
    exact cover _ (1 - y0 - n) x0 rfl (by omega) (by omega) (by omega) (by omega) fun c hc => by have := q c hc; simp only [turnP, pl]; omega
  · intro _ cover
    exact cover _ (1 - x0 - n) (1 - y0 - n) rfl (by omega) (by omega) (by omega) (by omega) fun c hc => by have := q c hc; simp only [turnP, pl]; omega
  · intro _ cover
    exact cover _ y0 (1 - x0 - n) rfl (by omega) (by omega) (by omega) (by omega) fun c hc => by have := q c hc; simp only [turnP, pl]; omega
  · intro _ cover
    exact cover _ (1 - x0 - n) y0 rfl (by omega) (by omega) (by omega) (by omega) fun c hc => by have := q c hc; simp only [turnP, pl]; omega
  · intro _ cover
    exact cover _ (1 - y0 - n) (1 - x0 - n) rfl (by omega) (by omega) (by omega) (by omega) fun c hc => by have := q c hc; simp only [turnP, pl]; omega
  · intro _ cover
    exact cover _ x0 (1 - y0 - n) rfl (by omega) (by omega) (by omega) (by omega) fun c hc => by have := q c hc; simp only [turnP, pl]; omega
  · intro _ cover
    exact cover _ y0 x0 rfl (by omega) (by omega) (by omega) (by omega) fun c hc => by have := q c hc; simp only [turnP, pl]; omega
/-- small enough for the program's limits -/
structure Lim (b : List Cell) : Prop where
  good : Good b
  len : b.length ≤ 3000
  far : ∀ c ∈ b, -10000 ≤ c.1 ∧ c.1 ≤ 10000 ∧ -10000 ≤ c.2.1 ∧ c.2.1 ≤ 10000
theorem Sm.lim {k n : Int} {b : List Cell} (h : Sm k n b) (hb : Good b) (hk : k ≤ 9000) (h0 : 0 ≤ n) (hn : n ≤ 54) : Lim b := by
  obtain ⟨x0, y0, h1, h2, h3, h4, q⟩ := h
  refine ⟨hb, ?_, fun c hc => by have := q c hc; omega⟩
  obtain ⟨m, rfl⟩ := Int.eq_ofNat_of_zero_le h0
  have hm : m ≤ 54 := by omega
  have h5 := inb_len hb.is q
  have : m * m ≤ 54 * 54 := Nat.mul_le_mul hm hm
  omega

/-! ### the region that a search reaches -/
def OctP (w h t : Int) (p : Pl) : Prop := -t ≤ p.1 ∧ p.1 ≤ w - 1 + t ∧ -t ≤ p.2 ∧ p.2 ≤ h - 1 + t ∧ -t ≤ p.1 + p.2 ∧ p.1 + p.2 ≤ w + h - 2 + t ∧ p.1 - p.2 ≤ w - 1 + t ∧ p.2 - p.1 ≤ h - 1 + t
instance (w h t : Int) (p : Pl) : Decidable (OctP w h t p) := by unfold OctP; infer_instance
def Oct (w h t : Int) (b : List Cell) : Prop := ∀ c ∈ b, OctP w h t (pl c)
/-- a half plane that a diagonal cuts grows by one a step -/
theorem half {r : Rule} (ok : r.Ok) {b : List Cell} (hb : Good b) {c : Cell} (hc : c ∈ step r b) (L : Pl → Int) (d0 : Pl) (s : Int) (hL : ∀ e ∈ b, L (pl e) ≤ s) (h1 : ∀ d ∈ nbs, d ≠ d0 → L (pl c) ≤ L (pad (pl c) d) + 1) : L (pl c) ≤ s + 1 := by
  rcases step_from ok hb hc with ⟨d, hd, e⟩ | ⟨_, m⟩
  · have := hL d hd
    rw [e] at this
    omega
  · by_cases q : ∃ d ∈ nbs, st b (pad (pl c) d) = 1 ∧ d ≠ d0
    · obtain ⟨d, hd, e, ne⟩ := q
      obtain ⟨x, hx, ex⟩ := st_one_mem hb e
      have a := hL x hx
      have b' := h1 d hd ne
      rw [ex] at a
      omega
    · have := near_one (f := st b) (p := pl c) (d0 := d0) fun d hd e => by
        by_cases z : d = d0
        · exact z
        · exact absurd ⟨d, hd, e, z⟩ q
      have := ok.b2 _ m
      omega
theorem nbs_all {C : Pl → Prop} (h1 : C (-1, -1)) (h2 : C (-1, 0)) (h3 : C (-1, 1)) (h4 : C (0, -1)) (h5 : C (0, 1)) (h6 : C (1, -1)) (h7 : C (1, 0)) (h8 : C (1, 1)) : ∀ d ∈ nbs, C d := fun d hd => by
  simp only [nbs, List.mem_cons, List.not_mem_nil, or_false] at hd
  rcases hd with rfl | rfl | rfl | rfl | rfl | rfl | rfl | rfl <;> assumption
theorem Oct.step {r : Rule} (ok : r.Ok) {b : List Cell} (hb : Good b) {w h t : Int} (o : Oct w h t b) : Oct w h (t + 1) (step r b) := fun c hc => by
  obtain ⟨d, hd, q⟩ := step_beside ok hb hc
  have o1 := o d hd
  unfold OctP pl at o1
  dsimp only at o1
  have a1 := half ok hb hc (fun p => p.1 + p.2) (-1, -1) (w + h - 2 + t) (fun e he => by have := o e he; unfold OctP at this; omega) (nbs_all (fun z => absurd rfl z) (by intro _; simp only [pad]; omega) (by intro _; simp only [pad]; omega) (by intro _; simp only [pad]; omega) (by intro _; simp only [pad]; omega) (by intro _; simp only [pad]; omega) (by intro _; simp only [pad]; omega) (by intro _; simp only [pad]; omega))
  have a2 := half ok hb hc (fun p => -(p.1 + p.2)) (1, 1) t (fun e he => by have := o e he; unfold OctP at this; omega) (nbs_all (by intro _; simp only [pad]; omega) (by intro _; simp only [pad]; omega) (by intro _; simp only [pad]; omega) (by intro _; simp only [pad]; omega) (by intro _; simp only [pad]; omega) (by intro _; simp only [pad]; omega) (by intro _; simp only [pad]; omega) (fun z => absurd rfl z))
  have a3 := half ok hb hc (fun p => p.1 - p.2) (-1, 1) (w - 1 + t) (fun e he => by have := o e he; unfold OctP at this; omega) (nbs_all (by intro _; simp only [pad]; omega) (by intro _; simp only [pad]; omega) (fun z => absurd rfl z) (by intro _; simp only [pad]; omega) (by intro _; simp only [pad]; omega) (by intro _; simp only [pad]; omega) (by intro _; simp only [pad]; omega) (by intro _; simp only [pad]; omega))
  have a4 := half ok hb hc (fun p => p.2 - p.1) (1, -1) (h - 1 + t) (fun e he => by have := o e he; unfold OctP at this; omega) (nbs_all (by intro _; simp only [pad]; omega) (by intro _; simp only [pad]; omega) (by intro _; simp only [pad]; omega) (by intro _; simp only [pad]; omega) (by intro _; simp only [pad]; omega) (fun z => absurd rfl z) (by intro _; simp only [pad]; omega) (by intro _; simp only [pad]; omega))
  unfold OctP
  unfold pl at a1 a2 a3 a4 ⊢
  dsimp only at a1 a2 a3 a4 ⊢
  omega
theorem Oct.stN {r : Rule} (ok : r.Ok) {b : List Cell} (hb : Good b) {w h : Int} (o : Oct w h 0 b) : ∀ t : Nat, Oct w h t (stN r t b)
  | 0 => o
  | t + 1 => by
    have := (Oct.stN ok hb o t).step ok (stN_good hb t)
    exact this
def octL (w h t : Nat) : List Pl := (grid (-(t : Int)) (-(t : Int)) (w + 2 * t) (h + 2 * t)).filter fun p => decide (OctP w h t p)
theorem oct_len {w h t : Nat} {b : List Cell} (hb : IsB b) (hw : 1 ≤ w) (hh : 1 ≤ h) (o : Oct w h t b) : b.length ≤ (octL w h t).length := len_le hb fun c hc => by
  have q := o c hc
  refine List.mem_filter.mpr ⟨mem_grid.mpr ?_, decide_eq_true q⟩
  unfold OctP at q
  omega
def boxes : List (Nat × Nat) := [(1, 1), (2, 2), (3, 1), (1, 4), (2, 3), (3, 2)]
theorem oct_all : ∀ x ∈ boxes, ∀ t ∈ List.range 4, (octL x.1 x.2 t).length < 60 := by decide +kernel
theorem oct_60 {w h t : Nat} (hx : (w, h) ∈ boxes) (ht : t < 4) {b : List Cell} (hb : IsB b) (o : Oct w h t b) : b.length < 60 := by
  have hw : 1 ≤ w ∧ 1 ≤ h := by
    simp only [boxes, List.mem_cons, Prod.mk.injEq, List.not_mem_nil, or_false] at hx
    omega
  exact Nat.lt_of_le_of_lt (oct_len hb hw.1 hw.2 o) (oct_all (w, h) hx t (List.mem_range.mpr ht))
end VL

set_option Elab.async false
set_option linter.all false
set_option maxRecDepth 100000
set_option maxHeartbeats 400000
/-! VLy: what the printed functions answer, from the leaves up. -/
namespace VL
open PySem L2 PyProof.Rows

theorem E_is_in (v a b : Int) : F_is_in [.im (.num v), .im (.num a), .im (.num b)] = some (.bl (decide (a ≤ v ∧ v ≤ b))) := by
  unfold F_is_in runG
  show (g_is_in [some (.im (.num v)), some (.im (.num a)), some (.im (.num b))]).bind _ = _
  simp only [g_is_in, fRet, fU, fAnd, fOr, fB, f1, f2, f3, fSeq, fNext, fIfS, fIf, fC, fSet, fDrop, fItems, itemsU, fTup, fLst, fCons, fConsF, fNil, fCall, fCallD, fNot, fChain, fUnp, fPar, setAllU, fVar_0, fVar_s, Option.bind_some, Option.bind_none, Option.map_some, isB_bl, eqU_im, eqU_ls, eqU_bb, neU_im, neU_ls, neU_bl, ltU_num, gtU_num, leU_num, geU_num, addU_num, subU_num, negU_num, isN_tup, isN_none, notN_tup, notN_none, ims_nil, ims_im, okAl_im, okAl_bl, okAl_nil, okRt_im, okRt_bl, okRt_nil, mut_im, mut_bl, mut_ls, mut_dc, lenU_tup, lenU_ls, tupU_tup, listU_tup, listU_ls, intU_num, ixU_tup, ixU_ls, ixU_dc, cutU_2, atI_0, atI_1, atI_2, isi_num_int, isi_num_bool, isi_tup_tuple, isi_num_tuple, wipeU, List.set_cons_zero, List.set_cons_succ, List.length_cons, List.length_nil, List.map_cons, List.map_nil, if_true, if_false, if_pos, Bool.false_eq_true, Bool.not_true, Bool.not_false, Bool.true_or, Bool.false_or, List.isEmpty_nil, List.isEmpty_cons, Option.map_none]
  by_cases h : a ≤ v
  · simp [h, fRet, fU, fAnd, fOr, fB, f1, f2, f3, fSeq, fNext, fIfS, fIf, fC, fSet, fDrop, fItems, itemsU, fTup, fLst, fCons, fConsF, fNil, fCall, fCallD, fNot, fChain, fUnp, fPar, setAllU, fVar_0, fVar_s, Option.bind_some, Option.bind_none, Option.map_some, isB_bl, eqU_im, eqU_ls, eqU_bb, neU_im, neU_ls, neU_bl, ltU_num, gtU_num, leU_num, geU_num, addU_num, subU_num, negU_num, isN_tup, isN_none, notN_tup, notN_none, ims_nil, ims_im, okAl_im, okAl_bl, okAl_nil, okRt_im, okRt_bl, okRt_nil, mut_im, mut_bl, mut_ls, mut_dc, lenU_tup, lenU_ls, tupU_tup, listU_tup, listU_ls, intU_num, ixU_tup, ixU_ls, ixU_dc, cutU_2, atI_0, atI_1, atI_2, isi_num_int, isi_num_bool, isi_tup_tuple, isi_num_tuple, wipeU, List.set_cons_zero, List.set_cons_succ, List.length_cons, List.length_nil, List.map_cons, List.map_nil, if_true, if_false, if_pos, Bool.false_eq_true, Bool.not_true, Bool.not_false, Bool.true_or, Bool.false_or, List.isEmpty_nil, List.isEmpty_cons, Option.map_none]
  · simp [h, fRet, fU, fAnd, fOr, fB, f1, f2, f3, fSeq, fNext, fIfS, fIf, fC, fSet, fDrop, fItems, itemsU, fTup, fLst, fCons, fConsF, fNil, fCall, fCallD, fNot, fChain, fUnp, fPar, setAllU, fVar_0, fVar_s, Option.bind_some, Option.bind_none, Option.map_some, isB_bl, eqU_im, eqU_ls, eqU_bb, neU_im, neU_ls, neU_bl, ltU_num, gtU_num, leU_num, geU_num, addU_num, subU_num, negU_num, isN_tup, isN_none, notN_tup, notN_none, ims_nil, ims_im, okAl_im, okAl_bl, okAl_nil, okRt_im, okRt_bl, okRt_nil, mut_im, mut_bl, mut_ls, mut_dc, lenU_tup, lenU_ls, tupU_tup, listU_tup, listU_ls, intU_num, ixU_tup, ixU_ls, ixU_dc, cutU_2, atI_0, atI_1, atI_2, isi_num_int, isi_num_bool, isi_tup_tuple, isi_num_tuple, wipeU, List.set_cons_zero, List.set_cons_succ, List.length_cons, List.length_nil, List.map_cons, List.map_nil, if_true, if_false, if_pos, Bool.false_eq_true, Bool.not_true, Bool.not_false, Bool.true_or, Bool.false_or, List.isEmpty_nil, List.isEmpty_cons, Option.map_none]
theorem lt_size {n : Nat} (h : n ≤ 1000000) : n < sizeLine := Nat.lt_of_le_of_lt h (by decide)
theorem minDD_nums : ∀ (xs : List Int) (a : Int), minDD (.num a) (xs.map .num) = .num (xs.foldl (fun m d => min m d) a)
  | [], _ => rfl
  | x :: xs, a => by
    have q : minDD (.num a) ((x :: xs).map .num) = minDD (if ltD (.num x) (.num a) = true then .num x else .num a) (xs.map .num) := rfl
    rw [q, ltD_num]
    by_cases h : x < a
    · rw [if_pos (decide_eq_true h), minDD_nums xs x, List.foldl_cons, Int.min_eq_right (by omega)]
    · rw [if_neg (by simpa using h), minDD_nums xs a, List.foldl_cons, Int.min_eq_left (by omega)]
theorem maxDD_nums : ∀ (xs : List Int) (a : Int), maxDD (.num a) (xs.map .num) = .num (xs.foldl (fun m d => max m d) a)
  | [], _ => rfl
  | x :: xs, a => by
    have q : maxDD (.num a) ((x :: xs).map .num) = maxDD (if ltD (.num a) (.num x) = true then .num x else .num a) (xs.map .num) := rfl
    rw [q, ltD_num]
    by_cases h : a < x
    · rw [if_pos (decide_eq_true h), maxDD_nums xs x, List.foldl_cons, Int.max_eq_right (by omega)]
    · rw [if_neg (by simpa using h), maxDD_nums xs a, List.foldl_cons, Int.max_eq_left (by omega)]
theorem allAl_nums (xs : List Int) : AllAl (xs.map NestedKey.num) := ⟨fun x hx y hy => by
  obtain ⟨i, _, rfl⟩ := List.mem_map.mp hx
  obtain ⟨j, _, rfl⟩ := List.mem_map.mp hy
  exact alD_num i j, fun x hx => by
  obtain ⟨i, _, rfl⟩ := List.mem_map.mp hx
  rfl⟩
theorem minU_nums (xs : List Int) (a : Int) : minU [.ls (.num a :: xs.map .num)] = some (.im (.num (xs.foldl (fun m d => min m d) a))) := by
  show (if AllAl (.num a :: xs.map .num) then some (U.im (minDD (.num a) (xs.map .num))) else none) = _
  rw [if_pos (show AllAl (.num a :: xs.map .num) from allAl_nums (a :: xs)), minDD_nums]
theorem maxU_nums (xs : List Int) (a : Int) : maxU [.ls (.num a :: xs.map .num)] = some (.im (.num (xs.foldl (fun m d => max m d) a))) := by
  show (if AllAl (.num a :: xs.map .num) then some (U.im (maxDD (.num a) (xs.map .num))) else none) = _
  rw [if_pos (show AllAl (.num a :: xs.map .num) from allAl_nums (a :: xs)), maxDD_nums]
theorem minU_f {f : Cell → Int} {b : List Cell} (h : b ≠ []) : minU [.ls (b.map fun c => .num (f c))] = some (.im (.num (mnF f b))) := by
  cases b with
  | nil => exact absurd rfl h
  | cons c b =>
    have e : (c :: b).map (fun c => NestedKey.num (f c)) = .num (f c) :: (b.map f).map .num := by rw [List.map_map]; rfl
    rw [e, minU_nums, List.foldl_map]
    rfl
theorem maxU_f {f : Cell → Int} {b : List Cell} (h : b ≠ []) : maxU [.ls (b.map fun c => .num (f c))] = some (.im (.num (mxF f b))) := by
  cases b with
  | nil => exact absurd rfl h
  | cons c b =>
    have e : (c :: b).map (fun c => NestedKey.num (f c)) = .num (f c) :: (b.map f).map .num := by rw [List.map_map]; rfl
    rw [e, maxU_nums, List.foldl_map]
    rfl
theorem lc_cells {b : D → Sh → Option Sh} {fe : Sh → Option U} {τ : Sh} (o : Cell → D) (bd : List Cell) (h : ∀ c ∈ bd, ∃ τ1, b (cD c) τ = some τ1 ∧ fe τ1 = some (.im (o c))) : lcGo b fYes fe τ (bd.map cD) = some (bd.map o) := lcGo_all cD o bd h
theorem mkTup_cells (b : List Cell) (h : b.length ≤ 1000000) : mkTup (b.map cD) = some (.im (bD b)) := mkTup_ok (fun d hd => by
  obtain ⟨c, _, rfl⟩ := List.mem_map.mp hd
  have := depth_cD c
  omega) (by rw [List.length_map]; exact h)
theorem tupU_cells (b : List Cell) : tupU [.ls (b.map cD)] = some (.im (bD b)) := tupU_ok fun d hd => by
  obtain ⟨c, _, rfl⟩ := List.mem_map.mp hd
  have := depth_cD c
  omega
theorem mkTup_2 (a b : Int) : mkTup [.num a, .num b] = some (.im (pD (a, b))) := mkTup_ok (fun d hd => by
  simp only [List.mem_cons, List.not_mem_nil, or_false] at hd
  rcases hd with rfl | rfl <;> simp [NestedKey.depth]) (by simp)
theorem mkTup_3 (a b c : Int) : mkTup [.num a, .num b, .num c] = some (.im (cD (a, b, c))) := mkTup_ok (fun d hd => by
  simp only [List.mem_cons, List.not_mem_nil, or_false] at hd
  rcases hd with rfl | rfl | rfl <;> simp [NestedKey.depth]) (by simp)
theorem mkTup_nil : mkTup [] = some (.im (.tup [])) := mkTup_ok (fun d hd => by simp at hd) (by simp)
theorem bTup_3 {i j k : Nat} (x y s : Int) (τ : Sh) : bTup [i, j, k] (cD (x, y, s)) τ = some (((τ.set i (some (.im (.num x)))).set j (some (.im (.num y)))).set k (some (.im (.num s)))) := rfl
theorem bTup_2 {i j : Nat} (x y : Int) (τ : Sh) : bTup [i, j] (pD (x, y)) τ = some ((τ.set i (some (.im (.num x)))).set j (some (.im (.num y)))) := rfl
theorem bName_e (i : Nat) (d : D) (τ : Sh) : bName i d τ = some (τ.set i (some (.im d))) := rfl
theorem items_bD (b : List Cell) : (match U.im (bD b) with | .im (.tup ds) => some ds | .ls ds => some ds | _ => none) = some (b.map cD) := rfl
theorem E_shifted_in (b : List Cell) (m : Pl) (h : b.length ≤ 100000) : F_shifted_in [.im (bD b), .im (pD m)] = some (.im (bD (shift m b))) := by
  unfold F_shifted_in runG
  show (g_shifted_in [some (.im (bD b)), some (.im (pD m)), none, none, none]).bind _ = _
  simp only [g_shifted_in, fRet, fU, fAnd, fOr, fB, f1, f2, f3, fSeq, fNext, fIfS, fIf, fC, fSet, fDrop, fItems, itemsU, fTup, fLst, fCons, fConsF, fNil, fCall, fCallD, fNot, fChain, fUnp, fPar, setAllU, fVar_0, fVar_s, Option.bind_some, Option.bind_none, Option.map_some, isB_bl, eqU_im, eqU_ls, eqU_bb, neU_im, neU_ls, neU_bl, ltU_num, gtU_num, leU_num, geU_num, addU_num, subU_num, negU_num, isN_tup, isN_none, notN_tup, notN_none, ims_nil, ims_im, okAl_im, okAl_bl, okAl_nil, okRt_im, okRt_bl, okRt_nil, mut_im, mut_bl, mut_ls, mut_dc, lenU_tup, lenU_ls, tupU_tup, listU_tup, listU_ls, intU_num, ixU_tup, ixU_ls, ixU_dc, cutU_2, atI_0, atI_1, atI_2, isi_num_int, isi_num_bool, isi_tup_tuple, isi_num_tuple, wipeU, List.set_cons_zero, List.set_cons_succ, List.length_cons, List.length_nil, List.map_cons, List.map_nil, if_true, if_false, if_pos, Bool.false_eq_true, Bool.not_true, Bool.not_false, Bool.true_or, Bool.false_or, List.isEmpty_nil, List.isEmpty_cons, Option.map_none, fLc, bD, List.length_map]
  rw [if_pos (lt_size (by omega)), lc_cells (fun c => cD (mv 0 m c)) b (fun c _ => ?_)]
  · simp only [fRet, fU, fAnd, fOr, fB, f1, f2, f3, fSeq, fNext, fIfS, fIf, fC, fSet, fDrop, fItems, itemsU, fTup, fLst, fCons, fConsF, fNil, fCall, fCallD, fNot, fChain, fUnp, fPar, setAllU, fVar_0, fVar_s, Option.bind_some, Option.bind_none, Option.map_some, isB_bl, eqU_im, eqU_ls, eqU_bb, neU_im, neU_ls, neU_bl, ltU_num, gtU_num, leU_num, geU_num, addU_num, subU_num, negU_num, isN_tup, isN_none, notN_tup, notN_none, ims_nil, ims_im, okAl_im, okAl_bl, okAl_nil, okRt_im, okRt_bl, okRt_nil, mut_im, mut_bl, mut_ls, mut_dc, lenU_tup, lenU_ls, tupU_tup, listU_tup, listU_ls, intU_num, ixU_tup, ixU_ls, ixU_dc, cutU_2, atI_0, atI_1, atI_2, isi_num_int, isi_num_bool, isi_tup_tuple, isi_num_tuple, wipeU, List.set_cons_zero, List.set_cons_succ, List.length_cons, List.length_nil, List.map_cons, List.map_nil, if_true, if_false, if_pos, Bool.false_eq_true, Bool.not_true, Bool.not_false, Bool.true_or, Bool.false_or, List.isEmpty_nil, List.isEmpty_cons, Option.map_none]
    have e : b.map (fun c => cD (mv 0 m c)) = (shift m b).map cD := by unfold shift; rw [List.map_map]; rfl
    rw [e, tupU_cells]
    simp only [fRet, fU, fAnd, fOr, fB, f1, f2, f3, fSeq, fNext, fIfS, fIf, fC, fSet, fDrop, fItems, itemsU, fTup, fLst, fCons, fConsF, fNil, fCall, fCallD, fNot, fChain, fUnp, fPar, setAllU, fVar_0, fVar_s, Option.bind_some, Option.bind_none, Option.map_some, isB_bl, eqU_im, eqU_ls, eqU_bb, neU_im, neU_ls, neU_bl, ltU_num, gtU_num, leU_num, geU_num, addU_num, subU_num, negU_num, isN_tup, isN_none, notN_tup, notN_none, ims_nil, ims_im, okAl_im, okAl_bl, okAl_nil, okRt_im, okRt_bl, okRt_nil, mut_im, mut_bl, mut_ls, mut_dc, lenU_tup, lenU_ls, tupU_tup, listU_tup, listU_ls, intU_num, ixU_tup, ixU_ls, ixU_dc, cutU_2, atI_0, atI_1, atI_2, isi_num_int, isi_num_bool, isi_tup_tuple, isi_num_tuple, wipeU, List.set_cons_zero, List.set_cons_succ, List.length_cons, List.length_nil, List.map_cons, List.map_nil, if_true, if_false, if_pos, Bool.false_eq_true, Bool.not_true, Bool.not_false, Bool.true_or, Bool.false_or, List.isEmpty_nil, List.isEmpty_cons, Option.map_none]
    rfl
  · obtain ⟨x, y, s⟩ := c
    obtain ⟨mx, my⟩ := m
    refine ⟨_, bTup_3 x y s _, ?_⟩
    simp only [fRet, fU, fAnd, fOr, fB, f1, f2, f3, fSeq, fNext, fIfS, fIf, fC, fSet, fDrop, fItems, itemsU, fTup, fLst, fCons, fConsF, fNil, fCall, fCallD, fNot, fChain, fUnp, fPar, setAllU, fVar_0, fVar_s, Option.bind_some, Option.bind_none, Option.map_some, isB_bl, eqU_im, eqU_ls, eqU_bb, neU_im, neU_ls, neU_bl, ltU_num, gtU_num, leU_num, geU_num, addU_num, subU_num, negU_num, isN_tup, isN_none, notN_tup, notN_none, ims_nil, ims_im, okAl_im, okAl_bl, okAl_nil, okRt_im, okRt_bl, okRt_nil, mut_im, mut_bl, mut_ls, mut_dc, lenU_tup, lenU_ls, tupU_tup, listU_tup, listU_ls, intU_num, ixU_tup, ixU_ls, ixU_dc, cutU_2, atI_0, atI_1, atI_2, isi_num_int, isi_num_bool, isi_tup_tuple, isi_num_tuple, wipeU, List.set_cons_zero, List.set_cons_succ, List.length_cons, List.length_nil, List.map_cons, List.map_nil, if_true, if_false, if_pos, Bool.false_eq_true, Bool.not_true, Bool.not_false, Bool.true_or, Bool.false_or, List.isEmpty_nil, List.isEmpty_cons, Option.map_none, pD, mkTup_3]
    rfl
end VL

set_option Elab.async false
set_option linter.all false
set_option maxRecDepth 100000
set_option maxHeartbeats 400000
/-! VMa: dicts from places to states. -/
namespace VL
open PySem L2 PyProof.Rows

theorem itemsU_b (b : List Cell) : itemsU (.im (bD b)) = some (b.map cD) := rfl
theorem itemsU_ls (b : List D) : itemsU (.ls b) = some b := rfl
theorem itemsU_tup (b : List D) : itemsU (.im (.tup b)) = some b := rfl
theorem ixc0 (c : Cell) : ixU (.im (cD c)) (.im (.num 0)) = some (.im (.num c.1)) := (ixU_tup _ _).trans (by rw [atI_0]; rfl)
theorem ixc1 (c : Cell) : ixU (.im (cD c)) (.im (.num 1)) = some (.im (.num c.2.1)) := (ixU_tup _ _).trans (by rw [atI_1]; rfl)
theorem ixc2 (c : Cell) : ixU (.im (cD c)) (.im (.num 2)) = some (.im (.num c.2.2)) := (ixU_tup _ _).trans (by rw [atI_2]; rfl)
theorem ixp0 (c : Pl) : ixU (.im (pD c)) (.im (.num 0)) = some (.im (.num c.1)) := (ixU_tup _ _).trans (by rw [atI_0]; rfl)
theorem ixp1 (c : Pl) : ixU (.im (pD c)) (.im (.num 1)) = some (.im (.num c.2)) := (ixU_tup _ _).trans (by rw [atI_1]; rfl)
theorem cutU_c (c : Cell) : cutU (.im (cD c)) (.im (.num 2)) = some (.im (pD (pl c))) := cutU_2 _
theorem mkLst_nil : mkLst [] = some (.ls []) := mkLst_ok (by simp)
theorem okArgs_im (d : D) (us : List U) : okArgs (.im d :: us) = okArgs us := by unfold okArgs; rw [List.filter_cons_of_neg (by rw [mut_im]; exact Bool.false_ne_true)]
theorem okArgs_nil : okArgs [] = true := rfl
theorem okArgs_1 (u : U) : okArgs [u] = true := by
  unfold okArgs
  refine decide_eq_true ?_
  exact Nat.le_trans (List.length_filter_le _ _) (by simp)

/-! ### places to states -/
def dK (l : List Cell) : List (D × W) := l.map fun c => (pD (pl c), .k (.num c.2.2))
theorem look_dK (l : List Cell) (p : Pl) : lookD (dK l) (pD p) = (l.find? fun c => decide (pl c = p)).map fun c => .k (.num c.2.2) := by
  unfold lookD dK
  rw [List.find?_map]
  have e : ((fun kv : D × W => decide (kv.1 = pD p)) ∘ fun c : Cell => (pD (pl c), W.k (.num c.2.2))) = fun c => decide (pl c = p) := by
    funext c
    show decide (pD (pl c) = pD p) = decide (pl c = p)
    by_cases h : pl c = p
    · rw [h]; simp
    · rw [decide_eq_false h, decide_eq_false fun q => h (pD_inj q)]
  rw [e]
  cases l.find? fun c => decide (pl c = p) <;> rfl
theorem find_at {l : List Cell} {p : Pl} {c : Cell} (e : (l.find? fun c => decide (pl c = p)) = some c) : pl c = p := by
  have := List.find?_some e
  simpa using this
theorem find_in {l : List Cell} {p : Pl} : (l.find? fun c => decide (pl c = p)).isSome = decide (p ∈ l.map pl) := by
  by_cases h : p ∈ l.map pl
  · rw [decide_eq_true h, List.find?_isSome]
    obtain ⟨c, hc, e⟩ := List.mem_map.mp h
    exact ⟨c, hc, decide_eq_true e⟩
  · rw [decide_eq_false h]
    cases q : l.find? fun c => decide (pl c = p) with
    | none => rfl
    | some c =>
      have h1 := List.mem_of_find?_eq_some q
      have h2 := List.find?_some q
      exact absurd (List.mem_map.mpr ⟨c, h1, of_decide_eq_true h2⟩) h
theorem get_dK (l : List Cell) (p : Pl) : getU (.dc (dK l)) (.im (pD p)) (.im (.num 0)) = some (.im (.num (st l p))) := by
  show some (((lookD (dK l) (pD p)).map wU).getD (.im (.num 0))) = _
  rw [look_dK]
  unfold st
  cases l.find? fun c => decide (pl c = p) <;> rfl
theorem in_dK (l : List Cell) (p : Pl) : inU (.im (pD p)) (.dc (dK l)) = some (.bl (decide (p ∈ l.map pl))) := by
  show some (U.bl (lookD (dK l) (pD p)).isSome) = _
  rw [look_dK, ← find_in]
  cases l.find? fun c => decide (pl c = p) <;> rfl
theorem nin_dK (l : List Cell) (p : Pl) : ninU (.im (pD p)) (.dc (dK l)) = some (.bl (!decide (p ∈ l.map pl))) := by
  unfold ninU
  rw [in_dK]
  rfl
theorem ix_dK {l : List Cell} {p : Pl} (h : p ∈ l.map pl) : ixU (.dc (dK l)) (.im (pD p)) = some (.im (.num (st l p))) := by
  show (lookD (dK l) (pD p)).map wU = _
  rw [look_dK]
  have q := find_in (l := l) (p := p)
  rw [decide_eq_true h] at q
  unfold st
  cases e : l.find? fun c => decide (pl c = p) with
  | none => rw [e] at q; cases q
  | some c => rfl
theorem keys_dK (l : List Cell) : keysU (.dc (dK l)) = some ((l.map pl).map pD) := by
  show some ((dK l).map (·.1)) = _
  unfold dK
  rw [List.map_map, List.map_map]
  rfl
/-- d[p] = s -/
def put (l : List Cell) (p : Pl) (s : Int) : List Cell := if p ∈ l.map pl then l.map (fun c => if pl c = p then (p.1, p.2, s) else c) else l ++ [(p.1, p.2, s)]
theorem sto_dK (l : List Cell) (p : Pl) (s : Int) : stoD (dK l) (pD p) (.k (.num s)) = dK (put l p s) := by
  unfold stoD put
  rw [look_dK]
  have q := find_in (l := l) (p := p)
  by_cases h : p ∈ l.map pl
  · rw [decide_eq_true h] at q
    rw [if_pos h, if_pos (by rw [Option.isSome_map]; exact q)]
    unfold dK
    rw [List.map_map, List.map_map]
    refine List.map_congr_left fun c _ => ?_
    show (if pD (pl c) = pD p then _ else _) = (pD (pl (if pl c = p then (p.1, p.2, s) else c)), W.k (.num (if pl c = p then (p.1, p.2, s) else c).2.2))
    by_cases e : pl c = p
    · rw [if_pos (by rw [e]), if_pos e]
      show (pD (pl c), W.k (.num s)) = (pD p, W.k (.num s))
      rw [e]
    · rw [if_neg fun z => e (pD_inj z), if_neg e]
  · rw [decide_eq_false h] at q
    rw [if_neg h, if_neg (by rw [Option.isSome_map, q]; exact Bool.false_ne_true)]
    unfold dK
    rw [List.map_append]
    rfl
theorem put_places {l : List Cell} {p q : Pl} {s : Int} : q ∈ (put l p s).map pl ↔ q = p ∨ q ∈ l.map pl := by
  unfold put
  by_cases h : p ∈ l.map pl
  · rw [if_pos h, List.map_map]
    have e : (l.map (pl ∘ fun c => if pl c = p then (p.1, p.2, s) else c)) = l.map pl := List.map_congr_left fun c _ => by
      show pl (if pl c = p then (p.1, p.2, s) else c) = pl c
      by_cases z : pl c = p
      · rw [if_pos z, z]; rfl
      · rw [if_neg z]
    rw [e]
    constructor
    · exact Or.inr
    · rintro (rfl | h')
      · exact h
      · exact h'
  · rw [if_neg h, List.map_append, List.mem_append]
    simp only [List.map_cons, List.map_nil, List.mem_singleton]
    constructor
    · rintro (h' | h')
      · exact .inr h'
      · exact .inl h'
    · rintro (h' | h')
      · exact .inr h'
      · exact .inl h'
theorem put_nodup {l : List Cell} {p : Pl} {s : Int} (nd : (l.map pl).Nodup) : ((put l p s).map pl).Nodup := by
  unfold put
  by_cases h : p ∈ l.map pl
  · rw [if_pos h, List.map_map]
    have e : (l.map (pl ∘ fun c => if pl c = p then (p.1, p.2, s) else c)) = l.map pl := List.map_congr_left fun c _ => by
      show pl (if pl c = p then (p.1, p.2, s) else c) = pl c
      by_cases z : pl c = p
      · rw [if_pos z, z]; rfl
      · rw [if_neg z]
    rw [e]
    exact nd
  · rw [if_neg h, List.map_append, List.nodup_append]
    refine ⟨nd, by simp, fun a ha b hb e => ?_⟩
    simp only [List.map_cons, List.map_nil, List.mem_singleton] at hb
    subst hb e
    exact h ha
theorem put_len (l : List Cell) (p : Pl) (s : Int) : (put l p s).length ≤ l.length + 1 := by
  unfold put
  split
  · rw [List.length_map]; omega
  · rw [List.length_append]; exact Nat.le_refl _
theorem st_put (l : List Cell) (p : Pl) (s : Int) (q : Pl) : st (put l p s) q = if q = p then s else st l q := by
  unfold put
  by_cases h : p ∈ l.map pl
  · rw [if_pos h]
    unfold st
    rw [List.find?_map]
    have e : ((fun c => decide (pl c = q)) ∘ fun c : Cell => if pl c = p then (p.1, p.2, s) else c) = fun c => decide (pl c = q) := by
      funext c
      show decide (pl (if pl c = p then (p.1, p.2, s) else c) = q) = _
      by_cases z : pl c = p
      · rw [if_pos z, z]; rfl
      · rw [if_neg z]
    rw [e]
    by_cases hq : q = p
    · subst hq
      rw [if_pos rfl]
      have f := find_in (l := l) (p := q)
      rw [decide_eq_true h] at f
      cases e2 : l.find? fun c => decide (pl c = q) with
      | none => rw [e2] at f; cases f
      | some c =>
        have := find_at e2
        show (if pl c = q then (q.1, q.2, s) else c).2.2 = s
        rw [if_pos this]
    · rw [if_neg hq]
      cases e2 : l.find? fun c => decide (pl c = q) with
      | none => rfl
      | some c =>
        have := find_at e2
        show (if pl c = p then (p.1, p.2, s) else c).2.2 = c.2.2
        rw [if_neg fun z => hq (this.symm.trans z)]
  · rw [if_neg h]
    unfold st
    rw [List.find?_append]
    by_cases hq : q = p
    · subst hq
      rw [if_pos rfl]
      have f := find_in (l := l) (p := q)
      rw [decide_eq_false h] at f
      cases e2 : l.find? fun c => decide (pl c = q) with
      | none =>
        show ((List.find? (fun c => decide (pl c = q)) [(q.1, q.2, s)]).map (·.2.2)).getD 0 = s
        rw [List.find?_cons_of_pos (by exact decide_eq_true rfl)]
        rfl
      | some c => rw [e2] at f; cases f
    · rw [if_neg hq]
      cases e2 : l.find? fun c => decide (pl c = q) with
      | none =>
        show ((List.find? (fun c => decide (pl c = q)) [(p.1, p.2, s)]).map (·.2.2)).getD 0 = 0
        rw [List.find?_cons_of_neg (by rw [decide_eq_false]; exact Bool.false_ne_true; exact fun z => hq z.symm)]
        rfl
      | some c => rfl
/-- a dict as the program builds it -/
structure Dk (l : List Cell) : Prop where
  nd : (l.map pl).Nodup
  pos : ∀ c ∈ l, 1 ≤ c.2.2
theorem one_place {l : List Cell} (nd : (l.map pl).Nodup) {c d : Cell} (hc : c ∈ l) (hd : d ∈ l) (e : pl c = pl d) : c = d := by
  induction l with
  | nil => simp at hc
  | cons x l ih =>
    rw [List.map_cons, List.nodup_cons] at nd
    rcases List.mem_cons.mp hc with e1 | h1
    · rcases List.mem_cons.mp hd with e2 | h2
      · rw [e1, e2]
      · subst e1
        exact absurd (List.mem_map.mpr ⟨d, h2, e.symm⟩) nd.1
    · rcases List.mem_cons.mp hd with e2 | h2
      · subst e2
        exact absurd (List.mem_map.mpr ⟨c, h1, e⟩) nd.1
      · exact ih nd.2 h1 h2
theorem st_nd {l : List Cell} (nd : (l.map pl).Nodup) {c : Cell} (hc : c ∈ l) : st l (pl c) = c.2.2 := by
  unfold st
  cases e : l.find? fun d => decide (pl d = pl c) with
  | none =>
    have := List.find?_eq_none.mp e c hc
    simp at this
  | some d =>
    have h1 := List.mem_of_find?_eq_some e
    have h2 := find_at e
    rw [one_place nd h1 hc h2]
    rfl
theorem st_not {l : List Cell} {p : Pl} (h : p ∉ l.map pl) : st l p = 0 := st_out fun c hc e => h (List.mem_map.mpr ⟨c, hc, e⟩)
theorem Dk.mem {l : List Cell} (h : Dk l) {c : Cell} : c ∈ l ↔ 1 ≤ c.2.2 ∧ st l (pl c) = c.2.2 := by
  refine ⟨fun hc => ⟨h.pos c hc, st_nd h.nd hc⟩, fun ⟨h1, h2⟩ => ?_⟩
  by_cases q : pl c ∈ l.map pl
  · obtain ⟨d, hd, e⟩ := List.mem_map.mp q
    have h3 := st_nd h.nd hd
    rw [e, h2] at h3
    have e' : (d.1, d.2.1) = (c.1, c.2.1) := e
    have : d = c := Prod.ext (Prod.mk.inj e').1 (Prod.ext (Prod.mk.inj e').2 h3.symm)
    rw [← this]
    exact hd
  · rw [st_not q] at h2
    omega
theorem Dk.places {l : List Cell} (h : Dk l) {p : Pl} : p ∈ l.map pl ↔ st l p ≠ 0 := by
  constructor
  · intro q
    obtain ⟨c, hc, rfl⟩ := List.mem_map.mp q
    rw [st_nd h.nd hc]
    have := h.pos c hc
    omega
  · intro q
    by_cases z : p ∈ l.map pl
    · exact z
    · exact absurd (st_not z) q
theorem Dk.put {l : List Cell} (h : Dk l) {p : Pl} {s : Int} (hs : 1 ≤ s) : Dk (put l p s) := by
  refine ⟨put_nodup h.nd, fun c hc => ?_⟩
  unfold VL.put at hc
  split at hc
  · obtain ⟨d, hd, rfl⟩ := List.mem_map.mp hc
    split
    · exact hs
    · exact h.pos d hd
  · rcases List.mem_append.mp hc with hc | hc
    · exact h.pos c hc
    · simp only [List.mem_singleton] at hc
      subst hc
      exact hs
theorem Dk.nil : Dk [] := ⟨List.nodup_nil, fun c h => by simp at h⟩
theorem Good.dk {b : List Cell} (h : Good b) : Dk b := ⟨places_nodup h.is, h.pos⟩
/-! ### sorted keys -/
def srtP (ps : List Pl) : List Pl := ps.mergeSort fun p q => !ltD (pD q) (pD p)
theorem srtD_map {α : Type} (f : α → D) (xs : List α) : srtD (xs.map f) = (xs.mergeSort fun a b => !ltD (f b) (f a)).map f := by
  unfold srtD
  exact (List.map_mergeSort (r := fun a b => !ltD (f b) (f a)) (s := PySem.W.dataLe false NestedKey.data) (f := f) (l := xs) fun a _ b _ => rfl).symm
theorem nums_lt2 (a b c d : Int) : decide (([a, b] : List Int) < [c, d]) = decide (a < c ∨ (a = c ∧ b < d)) := by
  congr 1
  simp only [List.cons_lt_cons_iff, List.not_lt_nil, and_false, or_false, List.lt_irrefl]
theorem ltD_pD (p q : Pl) : ltD (pD p) (pD q) = decide (plt p q) := by
  rw [pD_nD, pD_nD, ltD_nums, nums_lt2]
  rfl
theorem srtP_rise {ps : List Pl} (nd : ps.Nodup) : (srtP ps).Pairwise plt := by
  unfold srtP
  have h := List.pairwise_mergeSort (le := fun p q => !ltD (pD q) (pD p)) (fun a b c h1 h2 => by
    rw [ltD_pD] at *
    simp only [Bool.not_eq_true', decide_eq_false_iff_not] at *
    intro z
    rcases plt_tri b a with q | q | q
    · exact h1 q
    · subst q; exact h2 z
    · exact h2 (plt_trans z q)) (fun a b => by
    rw [ltD_pD, ltD_pD]
    by_cases q : plt b a
    · have := plt_asym q
      simp [q, this]
    · simp [q]) ps
  have nd2 : (ps.mergeSort fun p q => !ltD (pD q) (pD p)).Nodup := (List.mergeSort_perm ps _).nodup_iff.mpr nd
  refine (h.and nd2).imp fun {a b} ⟨h1, h2⟩ => ?_
  rw [ltD_pD] at h1
  simp only [Bool.not_eq_true', decide_eq_false_iff_not] at h1
  rcases plt_tri a b with q | q | q
  · exact q
  · exact absurd q h2
  · exact absurd q h1
theorem mem_srtP {ps : List Pl} {p : Pl} : p ∈ srtP ps ↔ p ∈ ps := by unfold srtP; exact List.mem_mergeSort
theorem srtOk_p (ps : List Pl) : SrtOk (ps.map pD) := ⟨fun x hx y hy => by
  obtain ⟨a, _, rfl⟩ := List.mem_map.mp hx
  obtain ⟨b, _, rfl⟩ := List.mem_map.mp hy
  exact alD_nums [a.1, a.2] [b.1, b.2], Or.inl fun x hx => by
  obtain ⟨a, _, rfl⟩ := List.mem_map.mp hx
  rfl⟩
end VL

set_option Elab.async false
set_option linter.all false
set_option maxRecDepth 100000
set_option maxHeartbeats 400000
/-! VMb: boards to dicts and back, boxes, normal forms, turns. -/
namespace VL
open PySem L2 PyProof.Rows

theorem bD_nil (b : List Cell) : decide (bD b = NestedKey.tup []) = decide (b = []) := by
  cases b with
  | nil => rfl
  | cons c b =>
    rw [decide_eq_false (p := bD (c :: b) = NestedKey.tup []), decide_eq_false (p := c :: b = [])]
    · simp
    · intro h
      have := NestedKey.tup.inj h
      simp at this
theorem bD_ne {b : List Cell} (h : b ≠ []) : decide (bD b = NestedKey.tup []) = false := by rw [bD_nil, decide_eq_false h]
theorem lenU_b (b : List Cell) : lenU [.im (bD b)] = some (.im (.num (b.length : Int))) := by
  show some (U.im (.num ((b.map cD).length : Int))) = _
  rw [List.length_map]
theorem ixb_0 (c : Cell) (b : List Cell) : ixU (.im (bD (c :: b))) (.im (.num 0)) = some (.im (cD c)) := (ixU_tup _ _).trans (by rw [List.map_cons, atI_0]; rfl)
theorem ixb_last {b : List Cell} (h : b ≠ []) : ∃ c ∈ b, ixU (.im (bD b)) (.im (.num (-1))) = some (.im (cD c)) := by
  refine ⟨b.getLast h, List.getLast_mem h, (ixU_tup _ _).trans ?_⟩
  have e : b.map cD = b.dropLast.map cD ++ [cD (b.getLast h)] := by
    conv => lhs; rw [← List.dropLast_concat_getLast h]
    rw [List.map_append]
    rfl
  rw [e, atI_last]
  rfl
theorem E__law_moved (b : List Cell) (m : Pl) (h : b.length ≤ 100000) : F__law_moved [.im (bD b), .im (.num m.1), .im (.num m.2)] = some (.im (bD (shift m b))) := by
  unfold F__law_moved runG
  show (g__law_moved [some (.im (bD b)), some (.im (.num m.1)), some (.im (.num m.2)), none]).bind _ = _
  simp only [g__law_moved, fRet, fU, fAnd, fOr, fB, f1, f2, f3, fSeq, fNext, fIfS, fIf, fC, fSet, fDrop, fItems, itemsU_b, itemsU_ls, itemsU_tup, fTup, fLst, fCons, fConsF, fNil, fCall, fCallD, fNot, fChain, fUnp, fPar, setAllU, fVar_0, fVar_s, Option.bind_some, Option.bind_none, Option.map_some, isB_bl, eqU_im, eqU_ls, eqU_bb, neU_im, neU_ls, neU_bl, ltU_num, gtU_num, leU_num, geU_num, addU_num, subU_num, negU_num, isN_tup, isN_none, notN_tup, notN_none, ims_nil, ims_im, okAl_im, okAl_bl, okAl_nil, okRt_im, okRt_bl, okRt_nil, mut_im, mut_bl, mut_ls, mut_dc, lenU_tup, lenU_ls, tupU_tup, listU_tup, listU_ls, intU_num, ixU_tup, ixU_ls, ixU_dc, cutU_c, ixc0, ixc1, ixc2, ixp0, ixp1, mkTup_2, mkTup_3, mkTup_nil, mkLst_nil, okArgs_im, okArgs_nil, atI_0, atI_1, atI_2, isi_num_int, isi_num_bool, isi_tup_tuple, isi_num_tuple, wipeU, List.set_cons_zero, List.set_cons_succ, List.length_cons, List.length_nil, List.map_cons, List.map_nil, if_true, if_false, if_pos, Bool.false_eq_true, Bool.not_true, Bool.not_false, Bool.true_or, Bool.false_or, List.isEmpty_nil, List.isEmpty_cons, Option.map_none, fLc, List.length_map]
  rw [if_pos (lt_size (by omega)), lc_cells (fun c => cD (mv 0 m c)) b (fun c _ => ?_)]
  · simp only [fRet, fU, fAnd, fOr, fB, f1, f2, f3, fSeq, fNext, fIfS, fIf, fC, fSet, fDrop, fItems, itemsU_b, itemsU_ls, itemsU_tup, fTup, fLst, fCons, fConsF, fNil, fCall, fCallD, fNot, fChain, fUnp, fPar, setAllU, fVar_0, fVar_s, Option.bind_some, Option.bind_none, Option.map_some, isB_bl, eqU_im, eqU_ls, eqU_bb, neU_im, neU_ls, neU_bl, ltU_num, gtU_num, leU_num, geU_num, addU_num, subU_num, negU_num, isN_tup, isN_none, notN_tup, notN_none, ims_nil, ims_im, okAl_im, okAl_bl, okAl_nil, okRt_im, okRt_bl, okRt_nil, mut_im, mut_bl, mut_ls, mut_dc, lenU_tup, lenU_ls, tupU_tup, listU_tup, listU_ls, intU_num, ixU_tup, ixU_ls, ixU_dc, cutU_c, ixc0, ixc1, ixc2, ixp0, ixp1, mkTup_2, mkTup_3, mkTup_nil, mkLst_nil, okArgs_im, okArgs_nil, atI_0, atI_1, atI_2, isi_num_int, isi_num_bool, isi_tup_tuple, isi_num_tuple, wipeU, List.set_cons_zero, List.set_cons_succ, List.length_cons, List.length_nil, List.map_cons, List.map_nil, if_true, if_false, if_pos, Bool.false_eq_true, Bool.not_true, Bool.not_false, Bool.true_or, Bool.false_or, List.isEmpty_nil, List.isEmpty_cons, Option.map_none]
    have e : b.map (fun c => cD (mv 0 m c)) = (shift m b).map cD := by unfold shift; rw [List.map_map]; rfl
    rw [e, tupU_cells]
    simp only [fRet, fU, fAnd, fOr, fB, f1, f2, f3, fSeq, fNext, fIfS, fIf, fC, fSet, fDrop, fItems, itemsU_b, itemsU_ls, itemsU_tup, fTup, fLst, fCons, fConsF, fNil, fCall, fCallD, fNot, fChain, fUnp, fPar, setAllU, fVar_0, fVar_s, Option.bind_some, Option.bind_none, Option.map_some, isB_bl, eqU_im, eqU_ls, eqU_bb, neU_im, neU_ls, neU_bl, ltU_num, gtU_num, leU_num, geU_num, addU_num, subU_num, negU_num, isN_tup, isN_none, notN_tup, notN_none, ims_nil, ims_im, okAl_im, okAl_bl, okAl_nil, okRt_im, okRt_bl, okRt_nil, mut_im, mut_bl, mut_ls, mut_dc, lenU_tup, lenU_ls, tupU_tup, listU_tup, listU_ls, intU_num, ixU_tup, ixU_ls, ixU_dc, cutU_c, ixc0, ixc1, ixc2, ixp0, ixp1, mkTup_2, mkTup_3, mkTup_nil, mkLst_nil, okArgs_im, okArgs_nil, atI_0, atI_1, atI_2, isi_num_int, isi_num_bool, isi_tup_tuple, isi_num_tuple, wipeU, List.set_cons_zero, List.set_cons_succ, List.length_cons, List.length_nil, List.map_cons, List.map_nil, if_true, if_false, if_pos, Bool.false_eq_true, Bool.not_true, Bool.not_false, Bool.true_or, Bool.false_or, List.isEmpty_nil, List.isEmpty_cons, Option.map_none]
  · refine ⟨_, bName_e 3 _ _, ?_⟩
    simp only [fRet, fU, fAnd, fOr, fB, f1, f2, f3, fSeq, fNext, fIfS, fIf, fC, fSet, fDrop, fItems, itemsU_b, itemsU_ls, itemsU_tup, fTup, fLst, fCons, fConsF, fNil, fCall, fCallD, fNot, fChain, fUnp, fPar, setAllU, fVar_0, fVar_s, Option.bind_some, Option.bind_none, Option.map_some, isB_bl, eqU_im, eqU_ls, eqU_bb, neU_im, neU_ls, neU_bl, ltU_num, gtU_num, leU_num, geU_num, addU_num, subU_num, negU_num, isN_tup, isN_none, notN_tup, notN_none, ims_nil, ims_im, okAl_im, okAl_bl, okAl_nil, okRt_im, okRt_bl, okRt_nil, mut_im, mut_bl, mut_ls, mut_dc, lenU_tup, lenU_ls, tupU_tup, listU_tup, listU_ls, intU_num, ixU_tup, ixU_ls, ixU_dc, cutU_c, ixc0, ixc1, ixc2, ixp0, ixp1, mkTup_2, mkTup_3, mkTup_nil, mkLst_nil, okArgs_im, okArgs_nil, atI_0, atI_1, atI_2, isi_num_int, isi_num_bool, isi_tup_tuple, isi_num_tuple, wipeU, List.set_cons_zero, List.set_cons_succ, List.length_cons, List.length_nil, List.map_cons, List.map_nil, if_true, if_false, if_pos, Bool.false_eq_true, Bool.not_true, Bool.not_false, Bool.true_or, Bool.false_or, List.isEmpty_nil, List.isEmpty_cons, Option.map_none]
    rfl
/-- board_of -/
def rise (l : List Cell) : List Cell := (srtP (l.map pl)).map fun p => (p.1, p.2, st l p)
theorem rise_mem {l : List Cell} (h : Dk l) (c : Cell) : c ∈ rise l ↔ c ∈ l := by
  unfold rise
  rw [List.mem_map]
  constructor
  · rintro ⟨p, hp, rfl⟩
    obtain ⟨d, hd, rfl⟩ := List.mem_map.mp (mem_srtP.mp hp)
    rw [st_nd h.nd hd]
    exact hd
  · intro hc
    refine ⟨pl c, mem_srtP.mpr (List.mem_map.mpr ⟨c, hc, rfl⟩), ?_⟩
    rw [st_nd h.nd hc]
    rfl
theorem rise_good {l : List Cell} (h : Dk l) : Good (rise l) := by
  refine ⟨?_, fun c hc => h.pos c ((rise_mem h c).mp hc)⟩
  unfold IsB rise
  rw [List.pairwise_map]
  exact (srtP_rise h.nd).imp fun {p q} z => z
theorem rise_st {l : List Cell} (h : Dk l) (p : Pl) : st (rise l) p = st l p := by
  by_cases q : p ∈ l.map pl
  · obtain ⟨c, hc, rfl⟩ := List.mem_map.mp q
    rw [st_nd h.nd hc]
    exact st_at (rise_good h).is ((rise_mem h c).mpr hc)
  · rw [st_not q]
    exact st_out fun c hc e => q (List.mem_map.mpr ⟨c, (rise_mem h c).mp hc, e⟩)
theorem E_board_of {l : List Cell} (h : Dk l) (hl : l.length ≤ 100000) : F_board_of [.dc (dK l)] = some (.im (bD (rise l))) := by
  unfold F_board_of runG
  show (g_board_of [some (.dc (dK l)), none]).bind _ = _
  have hlen : (srtP (l.map pl)).length = l.length := by unfold srtP; rw [List.length_mergeSort, List.length_map]
  simp only [g_board_of, fRet, fU, fAnd, fOr, fB, f1, f2, f3, fSeq, fNext, fIfS, fIf, fC, fSet, fDrop, fItems, itemsU_b, itemsU_ls, itemsU_tup, fTup, fLst, fCons, fConsF, fNil, fCall, fCallD, fNot, fChain, fUnp, fPar, setAllU, fVar_0, fVar_s, Option.bind_some, Option.bind_none, Option.map_some, isB_bl, eqU_im, eqU_ls, eqU_bb, neU_im, neU_ls, neU_bl, ltU_num, gtU_num, leU_num, geU_num, addU_num, subU_num, negU_num, isN_tup, isN_none, notN_tup, notN_none, ims_nil, ims_im, okAl_im, okAl_bl, okAl_nil, okRt_im, okRt_bl, okRt_nil, mut_im, mut_bl, mut_ls, mut_dc, lenU_tup, lenU_ls, tupU_tup, listU_tup, listU_ls, intU_num, ixU_tup, ixU_ls, ixU_dc, cutU_c, ixc0, ixc1, ixc2, ixp0, ixp1, mkTup_2, mkTup_3, mkTup_nil, mkLst_nil, okArgs_im, okArgs_nil, atI_0, atI_1, atI_2, isi_num_int, isi_num_bool, isi_tup_tuple, isi_num_tuple, wipeU, List.set_cons_zero, List.set_cons_succ, List.length_cons, List.length_nil, List.map_cons, List.map_nil, if_true, if_false, if_pos, Bool.false_eq_true, Bool.not_true, Bool.not_false, Bool.true_or, Bool.false_or, List.isEmpty_nil, List.isEmpty_cons, Option.map_none, fLc, fSK, keys_dK, if_pos (srtOk_p _), srtD_map]
  rw [if_pos (lt_size (by show ((srtP (l.map pl)).map pD).length ≤ _; rw [List.length_map, hlen]; omega))]
  have e := lcGo_all (b := bName 1) (fe := f2 addU (fVar 1) (fTup (fCons (f2 ixU (fVar 0) (fVar 1)) fNil))) (τ := [some (.dc (dK l)), none]) pD (fun p => cD (p.1, p.2, st l p)) (srtP (l.map pl)) (fun p hp => ⟨_, bName_e 1 _ _, by
    have q := mem_srtP.mp hp
    simp only [fRet, fU, fAnd, fOr, fB, f1, f2, f3, fSeq, fNext, fIfS, fIf, fC, fSet, fDrop, fItems, itemsU_b, itemsU_ls, itemsU_tup, fTup, fLst, fCons, fConsF, fNil, fCall, fCallD, fNot, fChain, fUnp, fPar, setAllU, fVar_0, fVar_s, Option.bind_some, Option.bind_none, Option.map_some, isB_bl, eqU_im, eqU_ls, eqU_bb, neU_im, neU_ls, neU_bl, ltU_num, gtU_num, leU_num, geU_num, addU_num, subU_num, negU_num, isN_tup, isN_none, notN_tup, notN_none, ims_nil, ims_im, okAl_im, okAl_bl, okAl_nil, okRt_im, okRt_bl, okRt_nil, mut_im, mut_bl, mut_ls, mut_dc, lenU_tup, lenU_ls, tupU_tup, listU_tup, listU_ls, intU_num, ixU_tup, ixU_ls, ixU_dc, cutU_c, ixc0, ixc1, ixc2, ixp0, ixp1, mkTup_2, mkTup_3, mkTup_nil, mkLst_nil, okArgs_im, okArgs_nil, atI_0, atI_1, atI_2, isi_num_int, isi_num_bool, isi_tup_tuple, isi_num_tuple, wipeU, List.set_cons_zero, List.set_cons_succ, List.length_cons, List.length_nil, List.map_cons, List.map_nil, if_true, if_false, if_pos, Bool.false_eq_true, Bool.not_true, Bool.not_false, Bool.true_or, Bool.false_or, List.isEmpty_nil, List.isEmpty_cons, Option.map_none, ix_dK q]
    rw [mkTup_ok (fun d hd => by simp only [List.mem_singleton] at hd; subst hd; simp [NestedKey.depth]) (by simp)]
    rfl⟩)
  have e' : (lcGo (bName 1) fYes (f2 addU (fVar 1) (fTup (fCons (f2 ixU (fVar 0) (fVar 1)) fNil))) [some (.dc (dK l)), none] (((l.map pl).mergeSort fun a b => !ltD (pD b) (pD a)).map pD)) = some ((rise l).map cD) := by
    refine e.trans ?_
    unfold rise
    rw [List.map_map]
    rfl
  rw [e']
  simp only [fRet, fU, fAnd, fOr, fB, f1, f2, f3, fSeq, fNext, fIfS, fIf, fC, fSet, fDrop, fItems, itemsU_b, itemsU_ls, itemsU_tup, fTup, fLst, fCons, fConsF, fNil, fCall, fCallD, fNot, fChain, fUnp, fPar, setAllU, fVar_0, fVar_s, Option.bind_some, Option.bind_none, Option.map_some, isB_bl, eqU_im, eqU_ls, eqU_bb, neU_im, neU_ls, neU_bl, ltU_num, gtU_num, leU_num, geU_num, addU_num, subU_num, negU_num, isN_tup, isN_none, notN_tup, notN_none, ims_nil, ims_im, okAl_im, okAl_bl, okAl_nil, okRt_im, okRt_bl, okRt_nil, mut_im, mut_bl, mut_ls, mut_dc, lenU_tup, lenU_ls, tupU_tup, listU_tup, listU_ls, intU_num, ixU_tup, ixU_ls, ixU_dc, cutU_c, ixc0, ixc1, ixc2, ixp0, ixp1, mkTup_2, mkTup_3, mkTup_nil, mkLst_nil, okArgs_im, okArgs_nil, atI_0, atI_1, atI_2, isi_num_int, isi_num_bool, isi_tup_tuple, isi_num_tuple, wipeU, List.set_cons_zero, List.set_cons_succ, List.length_cons, List.length_nil, List.map_cons, List.map_nil, if_true, if_false, if_pos, Bool.false_eq_true, Bool.not_true, Bool.not_false, Bool.true_or, Bool.false_or, List.isEmpty_nil, List.isEmpty_cons, Option.map_none, tupU_cells]
/-- cells_of: a fresh dict of a board -/
theorem sto_new {l : List (D × W)} {k : D} {w : W} (h : k ∉ l.map (·.1)) : stoD l k w = l ++ [(k, w)] := by
  unfold stoD lookD
  have : (l.find? fun kv => decide (kv.1 = k)) = none := List.find?_eq_none.mpr fun kv hkv q => h (List.mem_map.mpr ⟨kv, hkv, by simpa using q⟩)
  rw [this]
  rfl
theorem fold_sto {ι : Type} (k : ι → D) (w : ι → W) : ∀ (is : List ι) (acc : List (D × W)), (is.map k).Nodup → (∀ i ∈ is, k i ∉ acc.map (·.1)) → is.foldl (fun acc i => stoD acc (k i) (w i)) acc = acc ++ is.map fun i => (k i, w i)
  | [], acc, _, _ => by simp
  | i :: is, acc, nd, h => by
    rw [List.map_cons, List.nodup_cons] at nd
    rw [List.foldl_cons, sto_new (h i List.mem_cons_self), fold_sto k w is _ nd.2 fun j hj => ?_, List.map_cons, List.append_assoc]
    · rfl
    · rw [List.map_append, List.mem_append]
      rintro (q | q)
      · exact h j (List.mem_cons_of_mem _ hj) q
      · simp only [List.map_cons, List.map_nil, List.mem_singleton] at q
        exact nd.1 (q ▸ List.mem_map.mpr ⟨j, hj, rfl⟩)
theorem pD_nodup {ps : List Pl} (h : ps.Nodup) : (ps.map pD).Nodup := by
  unfold List.Nodup
  rw [List.pairwise_map]
  exact h.imp fun {a b} q e => q (pD_inj e)
theorem E_cells_of {b : List Cell} (h : IsB b) (hl : b.length ≤ 100000) : F_cells_of [.im (bD b)] = some (.dc (dK b)) := by
  unfold F_cells_of runG
  show (g_cells_of [some (.im (bD b)), none]).bind _ = _
  simp only [g_cells_of, fRet, fU, fAnd, fOr, fB, f1, f2, f3, fSeq, fNext, fIfS, fIf, fC, fSet, fDrop, fItems, itemsU_b, itemsU_ls, itemsU_tup, fTup, fLst, fCons, fConsF, fNil, fCall, fCallD, fNot, fChain, fUnp, fPar, setAllU, fVar_0, fVar_s, Option.bind_some, Option.bind_none, Option.map_some, isB_bl, eqU_im, eqU_ls, eqU_bb, neU_im, neU_ls, neU_bl, ltU_num, gtU_num, leU_num, geU_num, addU_num, subU_num, negU_num, isN_tup, isN_none, notN_tup, notN_none, ims_nil, ims_im, okAl_im, okAl_bl, okAl_nil, okRt_im, okRt_bl, okRt_nil, mut_im, mut_bl, mut_ls, mut_dc, lenU_tup, lenU_ls, tupU_tup, listU_tup, listU_ls, intU_num, ixU_tup, ixU_ls, ixU_dc, cutU_c, ixc0, ixc1, ixc2, ixp0, ixp1, mkTup_2, mkTup_3, mkTup_nil, mkLst_nil, okArgs_im, okArgs_nil, atI_0, atI_1, atI_2, isi_num_int, isi_num_bool, isi_tup_tuple, isi_num_tuple, wipeU, List.set_cons_zero, List.set_cons_succ, List.length_cons, List.length_nil, List.map_cons, List.map_nil, if_true, if_false, if_pos, Bool.false_eq_true, Bool.not_true, Bool.not_false, Bool.true_or, Bool.false_or, List.isEmpty_nil, List.isEmpty_cons, Option.map_none, fDc, List.length_map]
  rw [if_pos (lt_size (by omega))]
  have e := dcGo_map (b := bName 1) (ft := fYes) (fk := f2 cutU (fVar 1) (fC (.im (.num 2)))) (fe := f2 ixU (fVar 1) (fC (.im (.num 2)))) (τ := [some (.im (bD b)), none]) cD (fun _ => true) (fun c => [.num c.1, .num c.2.1]) (fun c => .num c.2.2) b [] (fun c _ => ⟨_, bName_e 1 _ _, rfl, fun _ => ⟨by simp only [fRet, fU, fAnd, fOr, fB, f1, f2, f3, fSeq, fNext, fIfS, fIf, fC, fSet, fDrop, fItems, itemsU_b, itemsU_ls, itemsU_tup, fTup, fLst, fCons, fConsF, fNil, fCall, fCallD, fNot, fChain, fUnp, fPar, setAllU, fVar_0, fVar_s, Option.bind_some, Option.bind_none, Option.map_some, isB_bl, eqU_im, eqU_ls, eqU_bb, neU_im, neU_ls, neU_bl, ltU_num, gtU_num, leU_num, geU_num, addU_num, subU_num, negU_num, isN_tup, isN_none, notN_tup, notN_none, ims_nil, ims_im, okAl_im, okAl_bl, okAl_nil, okRt_im, okRt_bl, okRt_nil, mut_im, mut_bl, mut_ls, mut_dc, lenU_tup, lenU_ls, tupU_tup, listU_tup, listU_ls, intU_num, ixU_tup, ixU_ls, ixU_dc, cutU_c, ixc0, ixc1, ixc2, ixp0, ixp1, mkTup_2, mkTup_3, mkTup_nil, mkLst_nil, okArgs_im, okArgs_nil, atI_0, atI_1, atI_2, isi_num_int, isi_num_bool, isi_tup_tuple, isi_num_tuple, wipeU, List.set_cons_zero, List.set_cons_succ, List.length_cons, List.length_nil, List.map_cons, List.map_nil, if_true, if_false, if_pos, Bool.false_eq_true, Bool.not_true, Bool.not_false, Bool.true_or, Bool.false_or, List.isEmpty_nil, List.isEmpty_cons, Option.map_none]; rfl, by simp only [fRet, fU, fAnd, fOr, fB, f1, f2, f3, fSeq, fNext, fIfS, fIf, fC, fSet, fDrop, fItems, itemsU_b, itemsU_ls, itemsU_tup, fTup, fLst, fCons, fConsF, fNil, fCall, fCallD, fNot, fChain, fUnp, fPar, setAllU, fVar_0, fVar_s, Option.bind_some, Option.bind_none, Option.map_some, isB_bl, eqU_im, eqU_ls, eqU_bb, neU_im, neU_ls, neU_bl, ltU_num, gtU_num, leU_num, geU_num, addU_num, subU_num, negU_num, isN_tup, isN_none, notN_tup, notN_none, ims_nil, ims_im, okAl_im, okAl_bl, okAl_nil, okRt_im, okRt_bl, okRt_nil, mut_im, mut_bl, mut_ls, mut_dc, lenU_tup, lenU_ls, tupU_tup, listU_tup, listU_ls, intU_num, ixU_tup, ixU_ls, ixU_dc, cutU_c, ixc0, ixc1, ixc2, ixp0, ixp1, mkTup_2, mkTup_3, mkTup_nil, mkLst_nil, okArgs_im, okArgs_nil, atI_0, atI_1, atI_2, isi_num_int, isi_num_bool, isi_tup_tuple, isi_num_tuple, wipeU, List.set_cons_zero, List.set_cons_succ, List.length_cons, List.length_nil, List.map_cons, List.map_nil, if_true, if_false, if_pos, Bool.false_eq_true, Bool.not_true, Bool.not_false, Bool.true_or, Bool.false_or, List.isEmpty_nil, List.isEmpty_cons, Option.map_none]⟩⟩)
  have e2 : (b.filter fun _ => true) = b := List.filter_eq_self.mpr fun _ _ => rfl
  rw [e2] at e
  have e3 := fold_sto (fun c : Cell => pD (pl c)) (fun c => W.k (.num c.2.2)) b [] (by
    have q := pD_nodup (places_nodup h)
    rw [List.map_map] at q
    exact q) (fun _ _ => by simp)
  rw [e]
  simp only [fRet, fU, fAnd, fOr, fB, f1, f2, f3, fSeq, fNext, fIfS, fIf, fC, fSet, fDrop, fItems, itemsU_b, itemsU_ls, itemsU_tup, fTup, fLst, fCons, fConsF, fNil, fCall, fCallD, fNot, fChain, fUnp, fPar, setAllU, fVar_0, fVar_s, Option.bind_some, Option.bind_none, Option.map_some, isB_bl, eqU_im, eqU_ls, eqU_bb, neU_im, neU_ls, neU_bl, ltU_num, gtU_num, leU_num, geU_num, addU_num, subU_num, negU_num, isN_tup, isN_none, notN_tup, notN_none, ims_nil, ims_im, okAl_im, okAl_bl, okAl_nil, okRt_im, okRt_bl, okRt_nil, mut_im, mut_bl, mut_ls, mut_dc, lenU_tup, lenU_ls, tupU_tup, listU_tup, listU_ls, intU_num, ixU_tup, ixU_ls, ixU_dc, cutU_c, ixc0, ixc1, ixc2, ixp0, ixp1, mkTup_2, mkTup_3, mkTup_nil, mkLst_nil, okArgs_im, okArgs_nil, atI_0, atI_1, atI_2, isi_num_int, isi_num_bool, isi_tup_tuple, isi_num_tuple, wipeU, List.set_cons_zero, List.set_cons_succ, List.length_cons, List.length_nil, List.map_cons, List.map_nil, if_true, if_false, if_pos, Bool.false_eq_true, Bool.not_true, Bool.not_false, Bool.true_or, Bool.false_or, List.isEmpty_nil, List.isEmpty_cons, Option.map_none]
  exact congrArg (fun x => some (U.dc x)) (e3.trans (List.nil_append _))
theorem mkTup_4 (a b c d : Int) : mkTup [.num a, .num b, .num c, .num d] = some (.im (nD [a, b, c, d])) := mkTup_ok (fun x hd => by
  simp only [List.mem_cons, List.not_mem_nil, or_false] at hd
  rcases hd with rfl | rfl | rfl | rfl <;> simp [NestedKey.depth]) (by simp)
theorem head_minx {c : Cell} {b : List Cell} (h : IsB (c :: b)) : minx (c :: b) = c.1 := by
  have h1 : minx (c :: b) ≤ c.1 := mnF_le (f := fun c => c.1) List.mem_cons_self
  obtain ⟨d, hd, e⟩ := mnF_mem (f := fun c => c.1) (b := c :: b) (by simp)
  have e : minx (c :: b) = d.1 := e
  rcases List.mem_cons.mp hd with rfl | hd
  · exact e
  · have := (List.pairwise_cons.mp h).1 d hd
    unfold cLt plt pl at this
    dsimp only at this
    omega
theorem lc_y {i j : Nat} {τ τ' : Sh} (b : List Cell) (hτ : ∀ c, fVar i (τ.set i (some (.im (cD c)))) = some (.im (cD c))) : lcGo (bName i) fYes (f2 ixU (fVar i) (fC (.im (.num 1)))) τ (b.map cD) = some (b.map fun c => .num c.2.1) := lc_cells _ b fun c _ => ⟨_, bName_e i _ _, by
  show (fVar i _).bind _ = _
  rw [hτ]
  simp only [fRet, fU, fAnd, fOr, fB, f1, f2, f3, fSeq, fNext, fIfS, fIf, fC, fSet, fDrop, fItems, itemsU_b, itemsU_ls, itemsU_tup, fTup, fLst, fCons, fConsF, fNil, fCall, fCallD, fNot, fChain, fUnp, fPar, setAllU, fVar_0, fVar_s, Option.bind_some, Option.bind_none, Option.map_some, isB_bl, eqU_im, eqU_ls, eqU_bb, neU_im, neU_ls, neU_bl, ltU_num, gtU_num, leU_num, geU_num, addU_num, subU_num, negU_num, isN_tup, isN_none, notN_tup, notN_none, ims_nil, ims_im, okAl_im, okAl_bl, okAl_nil, okRt_im, okRt_bl, okRt_nil, mut_im, mut_bl, mut_ls, mut_dc, lenU_tup, lenU_ls, tupU_tup, listU_tup, listU_ls, intU_num, ixU_tup, ixU_ls, ixU_dc, cutU_c, ixc0, ixc1, ixc2, ixp0, ixp1, mkTup_2, mkTup_3, mkTup_nil, mkLst_nil, okArgs_im, okArgs_nil, atI_0, atI_1, atI_2, isi_num_int, isi_num_bool, isi_tup_tuple, isi_num_tuple, wipeU, List.set_cons_zero, List.set_cons_succ, List.length_cons, List.length_nil, List.map_cons, List.map_nil, if_true, if_false, if_pos, Bool.false_eq_true, Bool.not_true, Bool.not_false, Bool.true_or, Bool.false_or, List.isEmpty_nil, List.isEmpty_cons, Option.map_none]⟩
theorem lc_x {i j : Nat} {τ τ' : Sh} (b : List Cell) (hτ : ∀ c, fVar i (τ.set i (some (.im (cD c)))) = some (.im (cD c))) : lcGo (bName i) fYes (f2 ixU (fVar i) (fC (.im (.num 0)))) τ (b.map cD) = some (b.map fun c => .num c.1) := lc_cells _ b fun c _ => ⟨_, bName_e i _ _, by
  show (fVar i _).bind _ = _
  rw [hτ]
  simp only [fRet, fU, fAnd, fOr, fB, f1, f2, f3, fSeq, fNext, fIfS, fIf, fC, fSet, fDrop, fItems, itemsU_b, itemsU_ls, itemsU_tup, fTup, fLst, fCons, fConsF, fNil, fCall, fCallD, fNot, fChain, fUnp, fPar, setAllU, fVar_0, fVar_s, Option.bind_some, Option.bind_none, Option.map_some, isB_bl, eqU_im, eqU_ls, eqU_bb, neU_im, neU_ls, neU_bl, ltU_num, gtU_num, leU_num, geU_num, addU_num, subU_num, negU_num, isN_tup, isN_none, notN_tup, notN_none, ims_nil, ims_im, okAl_im, okAl_bl, okAl_nil, okRt_im, okRt_bl, okRt_nil, mut_im, mut_bl, mut_ls, mut_dc, lenU_tup, lenU_ls, tupU_tup, listU_tup, listU_ls, intU_num, ixU_tup, ixU_ls, ixU_dc, cutU_c, ixc0, ixc1, ixc2, ixp0, ixp1, mkTup_2, mkTup_3, mkTup_nil, mkLst_nil, okArgs_im, okArgs_nil, atI_0, atI_1, atI_2, isi_num_int, isi_num_bool, isi_tup_tuple, isi_num_tuple, wipeU, List.set_cons_zero, List.set_cons_succ, List.length_cons, List.length_nil, List.map_cons, List.map_nil, if_true, if_false, if_pos, Bool.false_eq_true, Bool.not_true, Bool.not_false, Bool.true_or, Bool.false_or, List.isEmpty_nil, List.isEmpty_cons, Option.map_none]⟩
theorem E_box_in {b : List Cell} (h : IsB b) (hn : b ≠ []) (hl : b.length ≤ 100000) : ∃ z, F_box_in [.im (bD b)] = some (.im (nD [minx b, miny b, z, maxy b])) := by
  obtain ⟨d, _, hd⟩ := ixb_last hn
  refine ⟨d.1, ?_⟩
  unfold F_box_in runG
  show (g_box_in [some (.im (bD b)), none, none]).bind _ = _
  simp only [g_box_in, fRet, fU, fAnd, fOr, fB, f1, f2, f3, fSeq, fNext, fIfS, fIf, fC, fSet, fDrop, fItems, itemsU_b, itemsU_ls, itemsU_tup, fTup, fLst, fCons, fConsF, fNil, fCall, fCallD, fNot, fChain, fUnp, fPar, setAllU, fVar_0, fVar_s, Option.bind_some, Option.bind_none, Option.map_some, isB_bl, eqU_im, eqU_ls, eqU_bb, neU_im, neU_ls, neU_bl, ltU_num, gtU_num, leU_num, geU_num, addU_num, subU_num, negU_num, isN_tup, isN_none, notN_tup, notN_none, ims_nil, ims_im, okAl_im, okAl_bl, okAl_nil, okRt_im, okRt_bl, okRt_nil, mut_im, mut_bl, mut_ls, mut_dc, lenU_tup, lenU_ls, tupU_tup, listU_tup, listU_ls, intU_num, ixU_tup, ixU_ls, ixU_dc, cutU_c, ixc0, ixc1, ixc2, ixp0, ixp1, mkTup_2, mkTup_3, mkTup_nil, mkLst_nil, okArgs_im, okArgs_nil, atI_0, atI_1, atI_2, isi_num_int, isi_num_bool, isi_tup_tuple, isi_num_tuple, wipeU, List.set_cons_zero, List.set_cons_succ, List.length_cons, List.length_nil, List.map_cons, List.map_nil, if_true, if_false, if_pos, Bool.false_eq_true, Bool.not_true, Bool.not_false, Bool.true_or, Bool.false_or, List.isEmpty_nil, List.isEmpty_cons, Option.map_none, fLc, bD_ne hn, List.length_map]
  rw [if_pos (lt_size (by omega)), lc_y (i := 2) (j := 0) (τ' := []) b (fun c => rfl)]
  simp only [fRet, fU, fAnd, fOr, fB, f1, f2, f3, fSeq, fNext, fIfS, fIf, fC, fSet, fDrop, fItems, itemsU_b, itemsU_ls, itemsU_tup, fTup, fLst, fCons, fConsF, fNil, fCall, fCallD, fNot, fChain, fUnp, fPar, setAllU, fVar_0, fVar_s, Option.bind_some, Option.bind_none, Option.map_some, isB_bl, eqU_im, eqU_ls, eqU_bb, neU_im, neU_ls, neU_bl, ltU_num, gtU_num, leU_num, geU_num, addU_num, subU_num, negU_num, isN_tup, isN_none, notN_tup, notN_none, ims_nil, ims_im, okAl_im, okAl_bl, okAl_nil, okRt_im, okRt_bl, okRt_nil, mut_im, mut_bl, mut_ls, mut_dc, lenU_tup, lenU_ls, tupU_tup, listU_tup, listU_ls, intU_num, ixU_tup, ixU_ls, ixU_dc, cutU_c, ixc0, ixc1, ixc2, ixp0, ixp1, mkTup_2, mkTup_3, mkTup_nil, mkLst_nil, okArgs_im, okArgs_nil, atI_0, atI_1, atI_2, isi_num_int, isi_num_bool, isi_tup_tuple, isi_num_tuple, wipeU, List.set_cons_zero, List.set_cons_succ, List.length_cons, List.length_nil, List.map_cons, List.map_nil, if_true, if_false, if_pos, Bool.false_eq_true, Bool.not_true, Bool.not_false, Bool.true_or, Bool.false_or, List.isEmpty_nil, List.isEmpty_cons, Option.map_none, minU_f hn, maxU_f hn, hd]
  cases b with
  | nil => exact absurd rfl hn
  | cons c t =>
    simp only [fRet, fU, fAnd, fOr, fB, f1, f2, f3, fSeq, fNext, fIfS, fIf, fC, fSet, fDrop, fItems, itemsU_b, itemsU_ls, itemsU_tup, fTup, fLst, fCons, fConsF, fNil, fCall, fCallD, fNot, fChain, fUnp, fPar, setAllU, fVar_0, fVar_s, Option.bind_some, Option.bind_none, Option.map_some, isB_bl, eqU_im, eqU_ls, eqU_bb, neU_im, neU_ls, neU_bl, ltU_num, gtU_num, leU_num, geU_num, addU_num, subU_num, negU_num, isN_tup, isN_none, notN_tup, notN_none, ims_nil, ims_im, okAl_im, okAl_bl, okAl_nil, okRt_im, okRt_bl, okRt_nil, mut_im, mut_bl, mut_ls, mut_dc, lenU_tup, lenU_ls, tupU_tup, listU_tup, listU_ls, intU_num, ixU_tup, ixU_ls, ixU_dc, cutU_c, ixc0, ixc1, ixc2, ixp0, ixp1, mkTup_2, mkTup_3, mkTup_nil, mkLst_nil, okArgs_im, okArgs_nil, atI_0, atI_1, atI_2, isi_num_int, isi_num_bool, isi_tup_tuple, isi_num_tuple, wipeU, List.set_cons_zero, List.set_cons_succ, List.length_cons, List.length_nil, List.map_cons, List.map_nil, if_true, if_false, if_pos, Bool.false_eq_true, Bool.not_true, Bool.not_false, Bool.true_or, Bool.false_or, List.isEmpty_nil, List.isEmpty_cons, Option.map_none, ixb_0, mkTup_4]
    rw [head_minx h]
    rfl
theorem cutU_4 (a b c d : Int) : cutU (.im (nD [a, b, c, d])) (.im (.num 2)) = some (.im (pD (a, b))) := cutU_2 _
theorem ix4_0 (a b c d : Int) : ixU (.im (nD [a, b, c, d])) (.im (.num 0)) = some (.im (.num a)) := (ixU_tup _ _).trans (by rw [List.map_cons, atI_0]; rfl)
theorem ix4_1 (a b c d : Int) : ixU (.im (nD [a, b, c, d])) (.im (.num 1)) = some (.im (.num b)) := (ixU_tup _ _).trans (by rw [List.map_cons, List.map_cons, atI_1]; rfl)
/-- what normal_in answers -/
def nrD (b : List Cell) : D := .tup [bD (norm b), pD (corner b)]
theorem mkTup_bp (b : List Cell) (p : Pl) : mkTup [bD b, pD p] = some (.im (.tup [bD b, pD p])) := mkTup_ok (fun x hd => by
  simp only [List.mem_cons, List.not_mem_nil, or_false] at hd
  have := depth_bD b
  have := depth_pD p
  rcases hd with rfl | rfl <;> omega) (by simp)
theorem E_normal_in {b : List Cell} (h : IsB b) (hl : b.length ≤ 100000) : F_normal_in [.im (bD b)] = some (.im (nrD b)) := by
  unfold F_normal_in runG
  show (g_normal_in [some (.im (bD b)), none, none]).bind _ = _
  by_cases hn : b = []
  · subst hn
    simp only [g_normal_in, fRet, fU, fAnd, fOr, fB, f1, f2, f3, fSeq, fNext, fIfS, fIf, fC, fSet, fDrop, fItems, itemsU_b, itemsU_ls, itemsU_tup, fTup, fLst, fCons, fConsF, fNil, fCall, fCallD, fNot, fChain, fUnp, fPar, setAllU, fVar_0, fVar_s, Option.bind_some, Option.bind_none, Option.map_some, isB_bl, eqU_im, eqU_ls, eqU_bb, neU_im, neU_ls, neU_bl, ltU_num, gtU_num, leU_num, geU_num, addU_num, subU_num, negU_num, isN_tup, isN_none, notN_tup, notN_none, ims_nil, ims_im, okAl_im, okAl_bl, okAl_nil, okRt_im, okRt_bl, okRt_nil, mut_im, mut_bl, mut_ls, mut_dc, lenU_tup, lenU_ls, tupU_tup, listU_tup, listU_ls, intU_num, ixU_tup, ixU_ls, ixU_dc, cutU_c, ixc0, ixc1, ixc2, ixp0, ixp1, mkTup_2, mkTup_3, mkTup_nil, mkLst_nil, okArgs_im, okArgs_nil, atI_0, atI_1, atI_2, isi_num_int, isi_num_bool, isi_tup_tuple, isi_num_tuple, wipeU, List.set_cons_zero, List.set_cons_succ, List.length_cons, List.length_nil, List.map_cons, List.map_nil, if_true, if_false, if_pos, Bool.false_eq_true, Bool.not_true, Bool.not_false, Bool.true_or, Bool.false_or, List.isEmpty_nil, List.isEmpty_cons, Option.map_none, bD_nil, decide_true]
    rw [show mkTup [.tup [], pD (0, 0)] = some (.im (.tup [bD [], pD (0, 0)])) from mkTup_bp [] (0, 0)]
    simp only [fRet, fU, fAnd, fOr, fB, f1, f2, f3, fSeq, fNext, fIfS, fIf, fC, fSet, fDrop, fItems, itemsU_b, itemsU_ls, itemsU_tup, fTup, fLst, fCons, fConsF, fNil, fCall, fCallD, fNot, fChain, fUnp, fPar, setAllU, fVar_0, fVar_s, Option.bind_some, Option.bind_none, Option.map_some, isB_bl, eqU_im, eqU_ls, eqU_bb, neU_im, neU_ls, neU_bl, ltU_num, gtU_num, leU_num, geU_num, addU_num, subU_num, negU_num, isN_tup, isN_none, notN_tup, notN_none, ims_nil, ims_im, okAl_im, okAl_bl, okAl_nil, okRt_im, okRt_bl, okRt_nil, mut_im, mut_bl, mut_ls, mut_dc, lenU_tup, lenU_ls, tupU_tup, listU_tup, listU_ls, intU_num, ixU_tup, ixU_ls, ixU_dc, cutU_c, ixc0, ixc1, ixc2, ixp0, ixp1, mkTup_2, mkTup_3, mkTup_nil, mkLst_nil, okArgs_im, okArgs_nil, atI_0, atI_1, atI_2, isi_num_int, isi_num_bool, isi_tup_tuple, isi_num_tuple, wipeU, List.set_cons_zero, List.set_cons_succ, List.length_cons, List.length_nil, List.map_cons, List.map_nil, if_true, if_false, if_pos, Bool.false_eq_true, Bool.not_true, Bool.not_false, Bool.true_or, Bool.false_or, List.isEmpty_nil, List.isEmpty_cons, Option.map_none]
    rfl
  · obtain ⟨z, hz⟩ := E_box_in h hn hl
    simp only [g_normal_in, fRet, fU, fAnd, fOr, fB, f1, f2, f3, fSeq, fNext, fIfS, fIf, fC, fSet, fDrop, fItems, itemsU_b, itemsU_ls, itemsU_tup, fTup, fLst, fCons, fConsF, fNil, fCall, fCallD, fNot, fChain, fUnp, fPar, setAllU, fVar_0, fVar_s, Option.bind_some, Option.bind_none, Option.map_some, isB_bl, eqU_im, eqU_ls, eqU_bb, neU_im, neU_ls, neU_bl, ltU_num, gtU_num, leU_num, geU_num, addU_num, subU_num, negU_num, isN_tup, isN_none, notN_tup, notN_none, ims_nil, ims_im, okAl_im, okAl_bl, okAl_nil, okRt_im, okRt_bl, okRt_nil, mut_im, mut_bl, mut_ls, mut_dc, lenU_tup, lenU_ls, tupU_tup, listU_tup, listU_ls, intU_num, ixU_tup, ixU_ls, ixU_dc, cutU_c, ixc0, ixc1, ixc2, ixp0, ixp1, mkTup_2, mkTup_3, mkTup_nil, mkLst_nil, okArgs_im, okArgs_nil, atI_0, atI_1, atI_2, isi_num_int, isi_num_bool, isi_tup_tuple, isi_num_tuple, wipeU, List.set_cons_zero, List.set_cons_succ, List.length_cons, List.length_nil, List.map_cons, List.map_nil, if_true, if_false, if_pos, Bool.false_eq_true, Bool.not_true, Bool.not_false, Bool.true_or, Bool.false_or, List.isEmpty_nil, List.isEmpty_cons, Option.map_none, bD_ne hn, hz, cutU_4]
    rw [show pD (minx b, miny b) = .tup [.num (minx b), .num (miny b)] from rfl]
    simp only [fRet, fU, fAnd, fOr, fB, f1, f2, f3, fSeq, fNext, fIfS, fIf, fC, fSet, fDrop, fItems, itemsU_b, itemsU_ls, itemsU_tup, fTup, fLst, fCons, fConsF, fNil, fCall, fCallD, fNot, fChain, fUnp, fPar, setAllU, fVar_0, fVar_s, Option.bind_some, Option.bind_none, Option.map_some, isB_bl, eqU_im, eqU_ls, eqU_bb, neU_im, neU_ls, neU_bl, ltU_num, gtU_num, leU_num, geU_num, addU_num, subU_num, negU_num, isN_tup, isN_none, notN_tup, notN_none, ims_nil, ims_im, okAl_im, okAl_bl, okAl_nil, okRt_im, okRt_bl, okRt_nil, mut_im, mut_bl, mut_ls, mut_dc, lenU_tup, lenU_ls, tupU_tup, listU_tup, listU_ls, intU_num, ixU_tup, ixU_ls, ixU_dc, cutU_c, ixc0, ixc1, ixc2, ixp0, ixp1, mkTup_2, mkTup_3, mkTup_nil, mkLst_nil, okArgs_im, okArgs_nil, atI_0, atI_1, atI_2, isi_num_int, isi_num_bool, isi_tup_tuple, isi_num_tuple, wipeU, List.set_cons_zero, List.set_cons_succ, List.length_cons, List.length_nil, List.map_cons, List.map_nil, if_true, if_false, if_pos, Bool.false_eq_true, Bool.not_true, Bool.not_false, Bool.true_or, Bool.false_or, List.isEmpty_nil, List.isEmpty_cons, Option.map_none]
    rw [E_shifted_in b (-minx b, -miny b) hl]
    simp only [fRet, fU, fAnd, fOr, fB, f1, f2, f3, fSeq, fNext, fIfS, fIf, fC, fSet, fDrop, fItems, itemsU_b, itemsU_ls, itemsU_tup, fTup, fLst, fCons, fConsF, fNil, fCall, fCallD, fNot, fChain, fUnp, fPar, setAllU, fVar_0, fVar_s, Option.bind_some, Option.bind_none, Option.map_some, isB_bl, eqU_im, eqU_ls, eqU_bb, neU_im, neU_ls, neU_bl, ltU_num, gtU_num, leU_num, geU_num, addU_num, subU_num, negU_num, isN_tup, isN_none, notN_tup, notN_none, ims_nil, ims_im, okAl_im, okAl_bl, okAl_nil, okRt_im, okRt_bl, okRt_nil, mut_im, mut_bl, mut_ls, mut_dc, lenU_tup, lenU_ls, tupU_tup, listU_tup, listU_ls, intU_num, ixU_tup, ixU_ls, ixU_dc, cutU_c, ixc0, ixc1, ixc2, ixp0, ixp1, mkTup_2, mkTup_3, mkTup_nil, mkLst_nil, okArgs_im, okArgs_nil, atI_0, atI_1, atI_2, isi_num_int, isi_num_bool, isi_tup_tuple, isi_num_tuple, wipeU, List.set_cons_zero, List.set_cons_succ, List.length_cons, List.length_nil, List.map_cons, List.map_nil, if_true, if_false, if_pos, Bool.false_eq_true, Bool.not_true, Bool.not_false, Bool.true_or, Bool.false_or, List.isEmpty_nil, List.isEmpty_cons, Option.map_none]
    rw [mkTup_bp (shift (-minx b, -miny b) b) (minx b, miny b)]
    simp only [fRet, fU, fAnd, fOr, fB, f1, f2, f3, fSeq, fNext, fIfS, fIf, fC, fSet, fDrop, fItems, itemsU_b, itemsU_ls, itemsU_tup, fTup, fLst, fCons, fConsF, fNil, fCall, fCallD, fNot, fChain, fUnp, fPar, setAllU, fVar_0, fVar_s, Option.bind_some, Option.bind_none, Option.map_some, isB_bl, eqU_im, eqU_ls, eqU_bb, neU_im, neU_ls, neU_bl, ltU_num, gtU_num, leU_num, geU_num, addU_num, subU_num, negU_num, isN_tup, isN_none, notN_tup, notN_none, ims_nil, ims_im, okAl_im, okAl_bl, okAl_nil, okRt_im, okRt_bl, okRt_nil, mut_im, mut_bl, mut_ls, mut_dc, lenU_tup, lenU_ls, tupU_tup, listU_tup, listU_ls, intU_num, ixU_tup, ixU_ls, ixU_dc, cutU_c, ixc0, ixc1, ixc2, ixp0, ixp1, mkTup_2, mkTup_3, mkTup_nil, mkLst_nil, okArgs_im, okArgs_nil, atI_0, atI_1, atI_2, isi_num_int, isi_num_bool, isi_tup_tuple, isi_num_tuple, wipeU, List.set_cons_zero, List.set_cons_succ, List.length_cons, List.length_nil, List.map_cons, List.map_nil, if_true, if_false, if_pos, Bool.false_eq_true, Bool.not_true, Bool.not_false, Bool.true_or, Bool.false_or, List.isEmpty_nil, List.isEmpty_cons, Option.map_none]
    rfl
theorem E__law_box {b : List Cell} (hn : b ≠ []) (hl : b.length ≤ 100000) : F__law_box [.im (bD b)] = some (.im (nD [minx b, miny b, maxx b, maxy b])) := by
  unfold F__law_box runG
  show (g__law_box [some (.im (bD b)), none, none, none]).bind _ = _
  have hs : b.length < sizeLine := lt_size (by omega)
  simp only [g__law_box, fRet, fU, fAnd, fOr, fB, f1, f2, f3, fSeq, fNext, fIfS, fIf, fC, fSet, fDrop, fItems, itemsU_b, itemsU_ls, itemsU_tup, fTup, fLst, fCons, fConsF, fNil, fCall, fCallD, fNot, fChain, fUnp, fPar, setAllU, fVar_0, fVar_s, Option.bind_some, Option.bind_none, Option.map_some, isB_bl, eqU_im, eqU_ls, eqU_bb, neU_im, neU_ls, neU_bl, ltU_num, gtU_num, leU_num, geU_num, addU_num, subU_num, negU_num, isN_tup, isN_none, notN_tup, notN_none, ims_nil, ims_im, okAl_im, okAl_bl, okAl_nil, okRt_im, okRt_bl, okRt_nil, mut_im, mut_bl, mut_ls, mut_dc, lenU_tup, lenU_ls, tupU_tup, listU_tup, listU_ls, intU_num, ixU_tup, ixU_ls, ixU_dc, cutU_c, ixc0, ixc1, ixc2, ixp0, ixp1, mkTup_2, mkTup_3, mkTup_nil, mkLst_nil, okArgs_im, okArgs_nil, atI_0, atI_1, atI_2, isi_num_int, isi_num_bool, isi_tup_tuple, isi_num_tuple, wipeU, List.set_cons_zero, List.set_cons_succ, List.length_cons, List.length_nil, List.map_cons, List.map_nil, if_true, if_false, if_pos, Bool.false_eq_true, Bool.not_true, Bool.not_false, Bool.true_or, Bool.false_or, List.isEmpty_nil, List.isEmpty_cons, Option.map_none, fLc, bD_ne hn, List.length_map, hs]
  rw [lc_y (i := 3) (j := 0) (τ' := []) b (fun c => rfl), lc_x (i := 3) (j := 0) (τ' := []) b (fun c => rfl)]
  simp only [fRet, fU, fAnd, fOr, fB, f1, f2, f3, fSeq, fNext, fIfS, fIf, fC, fSet, fDrop, fItems, itemsU_b, itemsU_ls, itemsU_tup, fTup, fLst, fCons, fConsF, fNil, fCall, fCallD, fNot, fChain, fUnp, fPar, setAllU, fVar_0, fVar_s, Option.bind_some, Option.bind_none, Option.map_some, isB_bl, eqU_im, eqU_ls, eqU_bb, neU_im, neU_ls, neU_bl, ltU_num, gtU_num, leU_num, geU_num, addU_num, subU_num, negU_num, isN_tup, isN_none, notN_tup, notN_none, ims_nil, ims_im, okAl_im, okAl_bl, okAl_nil, okRt_im, okRt_bl, okRt_nil, mut_im, mut_bl, mut_ls, mut_dc, lenU_tup, lenU_ls, tupU_tup, listU_tup, listU_ls, intU_num, ixU_tup, ixU_ls, ixU_dc, cutU_c, ixc0, ixc1, ixc2, ixp0, ixp1, mkTup_2, mkTup_3, mkTup_nil, mkLst_nil, okArgs_im, okArgs_nil, atI_0, atI_1, atI_2, isi_num_int, isi_num_bool, isi_tup_tuple, isi_num_tuple, wipeU, List.set_cons_zero, List.set_cons_succ, List.length_cons, List.length_nil, List.map_cons, List.map_nil, if_true, if_false, if_pos, Bool.false_eq_true, Bool.not_true, Bool.not_false, Bool.true_or, Bool.false_or, List.isEmpty_nil, List.isEmpty_cons, Option.map_none, minU_f hn, maxU_f hn, mkTup_4, Bool.or_true]
  rfl
theorem E__law_normal {b : List Cell} (hl : b.length ≤ 100000) : F__law_normal [.im (bD b)] = some (.im (nrD b)) := by
  unfold F__law_normal runG
  show (g__law_normal [some (.im (bD b)), none]).bind _ = _
  by_cases hn : b = []
  · subst hn
    simp only [g__law_normal, fRet, fU, fAnd, fOr, fB, f1, f2, f3, fSeq, fNext, fIfS, fIf, fC, fSet, fDrop, fItems, itemsU_b, itemsU_ls, itemsU_tup, fTup, fLst, fCons, fConsF, fNil, fCall, fCallD, fNot, fChain, fUnp, fPar, setAllU, fVar_0, fVar_s, Option.bind_some, Option.bind_none, Option.map_some, isB_bl, eqU_im, eqU_ls, eqU_bb, neU_im, neU_ls, neU_bl, ltU_num, gtU_num, leU_num, geU_num, addU_num, subU_num, negU_num, isN_tup, isN_none, notN_tup, notN_none, ims_nil, ims_im, okAl_im, okAl_bl, okAl_nil, okRt_im, okRt_bl, okRt_nil, mut_im, mut_bl, mut_ls, mut_dc, lenU_tup, lenU_ls, tupU_tup, listU_tup, listU_ls, intU_num, ixU_tup, ixU_ls, ixU_dc, cutU_c, ixc0, ixc1, ixc2, ixp0, ixp1, mkTup_2, mkTup_3, mkTup_nil, mkLst_nil, okArgs_im, okArgs_nil, atI_0, atI_1, atI_2, isi_num_int, isi_num_bool, isi_tup_tuple, isi_num_tuple, wipeU, List.set_cons_zero, List.set_cons_succ, List.length_cons, List.length_nil, List.map_cons, List.map_nil, if_true, if_false, if_pos, Bool.false_eq_true, Bool.not_true, Bool.not_false, Bool.true_or, Bool.false_or, List.isEmpty_nil, List.isEmpty_cons, Option.map_none, bD_nil, decide_true]
    rw [show mkTup [.tup [], pD (0, 0)] = some (.im (.tup [bD [], pD (0, 0)])) from mkTup_bp [] (0, 0)]
    simp only [fRet, fU, fAnd, fOr, fB, f1, f2, f3, fSeq, fNext, fIfS, fIf, fC, fSet, fDrop, fItems, itemsU_b, itemsU_ls, itemsU_tup, fTup, fLst, fCons, fConsF, fNil, fCall, fCallD, fNot, fChain, fUnp, fPar, setAllU, fVar_0, fVar_s, Option.bind_some, Option.bind_none, Option.map_some, isB_bl, eqU_im, eqU_ls, eqU_bb, neU_im, neU_ls, neU_bl, ltU_num, gtU_num, leU_num, geU_num, addU_num, subU_num, negU_num, isN_tup, isN_none, notN_tup, notN_none, ims_nil, ims_im, okAl_im, okAl_bl, okAl_nil, okRt_im, okRt_bl, okRt_nil, mut_im, mut_bl, mut_ls, mut_dc, lenU_tup, lenU_ls, tupU_tup, listU_tup, listU_ls, intU_num, ixU_tup, ixU_ls, ixU_dc, cutU_c, ixc0, ixc1, ixc2, ixp0, ixp1, mkTup_2, mkTup_3, mkTup_nil, mkLst_nil, okArgs_im, okArgs_nil, atI_0, atI_1, atI_2, isi_num_int, isi_num_bool, isi_tup_tuple, isi_num_tuple, wipeU, List.set_cons_zero, List.set_cons_succ, List.length_cons, List.length_nil, List.map_cons, List.map_nil, if_true, if_false, if_pos, Bool.false_eq_true, Bool.not_true, Bool.not_false, Bool.true_or, Bool.false_or, List.isEmpty_nil, List.isEmpty_cons, Option.map_none]
    rfl
  · simp only [g__law_normal, fRet, fU, fAnd, fOr, fB, f1, f2, f3, fSeq, fNext, fIfS, fIf, fC, fSet, fDrop, fItems, itemsU_b, itemsU_ls, itemsU_tup, fTup, fLst, fCons, fConsF, fNil, fCall, fCallD, fNot, fChain, fUnp, fPar, setAllU, fVar_0, fVar_s, Option.bind_some, Option.bind_none, Option.map_some, isB_bl, eqU_im, eqU_ls, eqU_bb, neU_im, neU_ls, neU_bl, ltU_num, gtU_num, leU_num, geU_num, addU_num, subU_num, negU_num, isN_tup, isN_none, notN_tup, notN_none, ims_nil, ims_im, okAl_im, okAl_bl, okAl_nil, okRt_im, okRt_bl, okRt_nil, mut_im, mut_bl, mut_ls, mut_dc, lenU_tup, lenU_ls, tupU_tup, listU_tup, listU_ls, intU_num, ixU_tup, ixU_ls, ixU_dc, cutU_c, ixc0, ixc1, ixc2, ixp0, ixp1, mkTup_2, mkTup_3, mkTup_nil, mkLst_nil, okArgs_im, okArgs_nil, atI_0, atI_1, atI_2, isi_num_int, isi_num_bool, isi_tup_tuple, isi_num_tuple, wipeU, List.set_cons_zero, List.set_cons_succ, List.length_cons, List.length_nil, List.map_cons, List.map_nil, if_true, if_false, if_pos, Bool.false_eq_true, Bool.not_true, Bool.not_false, Bool.true_or, Bool.false_or, List.isEmpty_nil, List.isEmpty_cons, Option.map_none, bD_ne hn, E__law_box hn hl, cutU_4, ix4_0, ix4_1]
    rw [E__law_moved b (0 - minx b, 0 - miny b) hl]
    simp only [fRet, fU, fAnd, fOr, fB, f1, f2, f3, fSeq, fNext, fIfS, fIf, fC, fSet, fDrop, fItems, itemsU_b, itemsU_ls, itemsU_tup, fTup, fLst, fCons, fConsF, fNil, fCall, fCallD, fNot, fChain, fUnp, fPar, setAllU, fVar_0, fVar_s, Option.bind_some, Option.bind_none, Option.map_some, isB_bl, eqU_im, eqU_ls, eqU_bb, neU_im, neU_ls, neU_bl, ltU_num, gtU_num, leU_num, geU_num, addU_num, subU_num, negU_num, isN_tup, isN_none, notN_tup, notN_none, ims_nil, ims_im, okAl_im, okAl_bl, okAl_nil, okRt_im, okRt_bl, okRt_nil, mut_im, mut_bl, mut_ls, mut_dc, lenU_tup, lenU_ls, tupU_tup, listU_tup, listU_ls, intU_num, ixU_tup, ixU_ls, ixU_dc, cutU_c, ixc0, ixc1, ixc2, ixp0, ixp1, mkTup_2, mkTup_3, mkTup_nil, mkLst_nil, okArgs_im, okArgs_nil, atI_0, atI_1, atI_2, isi_num_int, isi_num_bool, isi_tup_tuple, isi_num_tuple, wipeU, List.set_cons_zero, List.set_cons_succ, List.length_cons, List.length_nil, List.map_cons, List.map_nil, if_true, if_false, if_pos, Bool.false_eq_true, Bool.not_true, Bool.not_false, Bool.true_or, Bool.false_or, List.isEmpty_nil, List.isEmpty_cons, Option.map_none]
    have e : ((0 - minx b, 0 - miny b) : Pl) = (-minx b, -miny b) := Prod.ext (Int.zero_sub _) (Int.zero_sub _)
    rw [e, mkTup_bp (shift (-minx b, -miny b) b) (minx b, miny b)]
    simp only [fRet, fU, fAnd, fOr, fB, f1, f2, f3, fSeq, fNext, fIfS, fIf, fC, fSet, fDrop, fItems, itemsU_b, itemsU_ls, itemsU_tup, fTup, fLst, fCons, fConsF, fNil, fCall, fCallD, fNot, fChain, fUnp, fPar, setAllU, fVar_0, fVar_s, Option.bind_some, Option.bind_none, Option.map_some, isB_bl, eqU_im, eqU_ls, eqU_bb, neU_im, neU_ls, neU_bl, ltU_num, gtU_num, leU_num, geU_num, addU_num, subU_num, negU_num, isN_tup, isN_none, notN_tup, notN_none, ims_nil, ims_im, okAl_im, okAl_bl, okAl_nil, okRt_im, okRt_bl, okRt_nil, mut_im, mut_bl, mut_ls, mut_dc, lenU_tup, lenU_ls, tupU_tup, listU_tup, listU_ls, intU_num, ixU_tup, ixU_ls, ixU_dc, cutU_c, ixc0, ixc1, ixc2, ixp0, ixp1, mkTup_2, mkTup_3, mkTup_nil, mkLst_nil, okArgs_im, okArgs_nil, atI_0, atI_1, atI_2, isi_num_int, isi_num_bool, isi_tup_tuple, isi_num_tuple, wipeU, List.set_cons_zero, List.set_cons_succ, List.length_cons, List.length_nil, List.map_cons, List.map_nil, if_true, if_false, if_pos, Bool.false_eq_true, Bool.not_true, Bool.not_false, Bool.true_or, Bool.false_or, List.isEmpty_nil, List.isEmpty_cons, Option.map_none]
    rfl
end VL

set_option Elab.async false
set_option linter.all false
set_option maxRecDepth 100000
set_option maxHeartbeats 400000
/-! VMc: the program's step. -/
namespace VL
open PySem L2 PyProof.Rows

/-- a for loop, with the number of turns that are left -/
theorem loopV_ix {ι S : Type} {b : D → Sh → Option Sh} {g : Sh → Option Res} (e : ι → D) (R : Nat → S → Sh → Prop) (f : S → ι → S) : ∀ (is : List ι), (∀ i ∈ is, ∀ n a τ, R (n + 1) a τ → ∃ τ1 τ2, b (e i) τ = some τ1 ∧ g τ1 = some (.nx τ2) ∧ R n (f a i) τ2) →
    ∀ (k : Nat) (a : S) (τ : Sh), R (is.length + k) a τ → ∃ τ', loopV b g (is.map e) τ = some (.nx τ') ∧ R k (is.foldl f a) τ'
  | [], _, k, a, τ, h => ⟨τ, rfl, by rw [List.length_nil, Nat.zero_add] at h; exact h⟩
  | i :: is, hs, k, a, τ, h => by
    rw [List.length_cons, Nat.add_right_comm] at h
    obtain ⟨τ1, τ2, h1, h2, h3⟩ := hs i List.mem_cons_self _ a τ h
    obtain ⟨τ', h4, h5⟩ := loopV_ix e R f is (fun j hj => hs j (List.mem_cons_of_mem _ hj)) k (f a i) τ2 h3
    refine ⟨τ', ?_, h5⟩
    show ((b (e i) τ).bind fun τ1 => (g τ1).bind fun r => match r with
      | .nx τ' => loopV b g (is.map e) τ'
      | .rt u => some (.rt u)) = _
    rw [h1, Option.bind_some, h2, Option.bind_some]
    exact h4
theorem Dk.nonneg {l : List Cell} (h : Dk l) (p : Pl) : 0 ≤ st l p := by
  by_cases q : p ∈ l.map pl
  · obtain ⟨c, hc, rfl⟩ := List.mem_map.mp q
    rw [st_nd h.nd hc]
    have := h.pos c hc
    omega
  · rw [st_not q]
    exact Int.le_refl _
def bump (l : List Cell) (p : Pl) : List Cell := put l p (st l p + 1)
theorem Dk.bump {l : List Cell} (h : Dk l) (p : Pl) : Dk (bump l p) := h.put (by have := h.nonneg p; omega)
theorem bumps {q : Pl} : ∀ (ds : List Pl) {l : List Cell}, Dk l → Dk (ds.foldl (fun l d => bump l (pad q d)) l) ∧ ∀ p, st (ds.foldl (fun l d => bump l (pad q d)) l) p = st l p + (ds.countP fun d => decide (pad q d = p) : Nat)
  | [], l, h => ⟨h, fun p => by simp⟩
  | d :: ds, l, h => by
    obtain ⟨h1, h2⟩ := bumps (q := q) ds (h.bump (pad q d))
    refine ⟨h1, fun p => ?_⟩
    rw [List.foldl_cons, h2 p, List.countP_cons]
    unfold bump
    rw [st_put]
    by_cases e : p = pad q d
    · rw [if_pos e, if_pos (by rw [e]; exact decide_eq_true rfl), e]
      omega
    · rw [if_neg e, if_neg (by rw [decide_eq_false]; exact Bool.false_ne_true; exact fun z => e z.symm)]
      omega
def around1 (l : List Cell) (q : Pl) : List Cell := nbs.foldl (fun l d => bump l (pad q d)) l
def nbrs (o : Cell → Bool) (b acc : List Cell) : List Cell := b.foldl (fun l c => if o c = true then around1 l (pl c) else l) acc
theorem countP_or {α : Type} {p q : α → Bool} : ∀ (l : List α), (∀ d ∈ l, ¬ (p d = true ∧ q d = true)) → l.countP (fun d => p d || q d) = l.countP p + l.countP q
  | [], _ => rfl
  | x :: l, h => by
    have ih := countP_or l fun d hd => h d (List.mem_cons_of_mem _ hd)
    have hx := h x List.mem_cons_self
    rw [List.countP_cons, List.countP_cons, List.countP_cons, ih]
    cases hp : p x <;> cases hq : q x
    · simp
    · simp; omega
    · simp; omega
    · exact absurd ⟨hp, hq⟩ hx
theorem count_back (q p : Pl) : (nbs.countP fun d => decide (pad q d = p)) = nbs.countP fun d => decide (q = pad p d) := by
  rw [← (nbs_turn 2).countP_eq, List.countP_map]
  congr 1
  funext d
  obtain ⟨a, b⟩ := q; obtain ⟨c, e⟩ := p; obtain ⟨x, y⟩ := d
  show decide (((a + -x, b + -y) : Pl) = (c, e)) = decide (((a, b) : Pl) = (c + x, e + y))
  by_cases h : a = c + x ∧ b = e + y
  · rw [decide_eq_true (by rw [Prod.mk.injEq]; omega), decide_eq_true (by rw [Prod.mk.injEq]; omega)]
  · rw [decide_eq_false (by rw [Prod.mk.injEq]; omega), decide_eq_false (by rw [Prod.mk.injEq]; omega)]
theorem nbrs_st (o : Cell → Bool) : ∀ (b : List Cell) {acc : List Cell}, (b.map pl).Nodup → Dk acc → Dk (nbrs o b acc) ∧ ∀ p, st (nbrs o b acc) p = st acc p + (nbs.countP fun d => b.any fun c => o c && decide (pl c = pad p d) : Nat)
  | [], acc, _, h => ⟨h, fun p => by simp [nbrs]⟩
  | c :: b, acc, nd, h => by
    rw [List.map_cons, List.nodup_cons] at nd
    have h0 : Dk (if o c = true then around1 acc (pl c) else acc) := by
      split
      · exact (bumps nbs h).1
      · exact h
    obtain ⟨h1, h2⟩ := nbrs_st o b (acc := if o c = true then around1 acc (pl c) else acc) nd.2 h0
    refine ⟨h1, fun p => ?_⟩
    have h2 : st (nbrs o (c :: b) acc) p = _ := h2 p
    rw [h2]
    have e : (nbs.countP fun d => (c :: b).any fun c => o c && decide (pl c = pad p d)) = (nbs.countP fun d => o c && decide (pl c = pad p d)) + nbs.countP fun d => b.any fun c => o c && decide (pl c = pad p d) := by
      rw [← countP_or]
      · congr 1
      · rintro d _ ⟨q1, q2⟩
        simp only [Bool.and_eq_true, decide_eq_true_eq] at q1
        obtain ⟨x, hx, q3⟩ := List.any_eq_true.mp q2
        simp only [Bool.and_eq_true, decide_eq_true_eq] at q3
        exact nd.1 (List.mem_map.mpr ⟨x, hx, q3.2.trans q1.2.symm⟩)
    rw [e]
    cases ho : o c with
    | true =>
      rw [if_pos rfl]
      unfold around1
      rw [(bumps nbs h).2 p, count_back]
      simp only [Bool.true_and]
      omega
    | false =>
      rw [if_neg Bool.false_ne_true]
      simp only [Bool.false_and]
      have z : (nbs.countP fun _ => false) = 0 := List.countP_eq_zero.mpr fun _ _ => Bool.false_ne_true
      rw [z]
      omega
def one (b : List Cell) (c : Cell) : Bool := decide (st b (pl c) = 1)
theorem counts_st {b : List Cell} (hb : Good b) : Dk (nbrs (one b) b []) ∧ ∀ p, st (nbrs (one b) b []) p = (near (st b) p : Nat) := by
  obtain ⟨h1, h2⟩ := nbrs_st (one b) b (acc := []) (places_nodup hb.is) Dk.nil
  refine ⟨h1, fun p => ?_⟩
  rw [h2 p]
  have z : st [] p = 0 := rfl
  have e : (nbs.countP fun d => b.any fun c => one b c && decide (pl c = pad p d)) = near (st b) p := by
    unfold near
    congr 1
    funext d
    by_cases h : st b (pad p d) = 1
    · rw [decide_eq_true h]
      obtain ⟨c, hc, e⟩ := st_one_mem hb h
      refine List.any_eq_true.mpr ⟨c, hc, ?_⟩
      unfold one
      rw [e, decide_eq_true h, decide_eq_true rfl]
      rfl
    · rw [decide_eq_false h]
      refine Bool.eq_false_iff.mpr fun q => ?_
      obtain ⟨c, hc, q⟩ := List.any_eq_true.mp q
      unfold one at q
      simp only [Bool.and_eq_true, decide_eq_true_eq] at q
      exact h (q.2 ▸ q.1)
  rw [e, z]
  omega
/-- the end of a fold of stores -/
theorem fold_puts (c : Pl → Prop) [∀ p, Decidable (c p)] (v : Pl → Int) (hv : ∀ p, c p → 1 ≤ v p) : ∀ (ps : List Pl) {acc : List Cell}, Dk acc → Dk (ps.foldl (fun l p => if c p then put l p (v p) else l) acc) ∧ ∀ q, st (ps.foldl (fun l p => if c p then put l p (v p) else l) acc) q = if q ∈ ps ∧ c q then v q else st acc q
  | [], acc, h => ⟨h, fun q => by simp⟩
  | p :: ps, acc, h => by
    have h0 : Dk (if c p then put acc p (v p) else acc) := by
      split
      · rename_i hc
        exact h.put (hv p hc)
      · exact h
    obtain ⟨h1, h2⟩ := fold_puts c v hv ps h0
    refine ⟨h1, fun q => ?_⟩
    rw [List.foldl_cons, h2 q]
    by_cases h3 : q ∈ ps ∧ c q
    · rw [if_pos h3, if_pos ⟨List.mem_cons_of_mem _ h3.1, h3.2⟩]
    · rw [if_neg h3]
      by_cases e : q = p
      · subst e
        by_cases hc : c q
        · rw [if_pos hc, st_put, if_pos rfl, if_pos ⟨List.mem_cons_self, hc⟩]
        · rw [if_neg hc, if_neg fun z => hc z.2]
      · have e2 : ¬ (q ∈ p :: ps ∧ c q) := fun z => by
          rcases List.mem_cons.mp z.1 with z1 | z1
          · exact e z1
          · exact h3 ⟨z1, z.2⟩
        rw [if_neg e2]
        split
        · rw [st_put, if_neg e]
        · rfl
/-- the program's dict of the next cells -/
def nextC (r : Rule) (b : List Cell) : List Cell :=
  (b.map pl).foldl (fun l p => if (st b p = 1 ∧ (near (st b) p : Int) ∈ r.ss) ∨ st b p + 1 < r.n then put l p (if st b p = 1 ∧ (near (st b) p : Int) ∈ r.ss then 1 else st b p + 1) else l)
    (((nbrs (one b) b []).map pl).foldl (fun l p => if p ∉ b.map pl ∧ (near (st b) p : Int) ∈ r.bs then put l p 1 else l) [])
theorem nextC_st {r : Rule} (ok : r.Ok) {b : List Cell} (hb : Good b) : Dk (nextC r b) ∧ ∀ p, st (nextC r b) p = nxt r (st b) p := by
  obtain ⟨c1, c2⟩ := counts_st hb
  obtain ⟨a1, a2⟩ := fold_puts (fun p => p ∉ b.map pl ∧ (near (st b) p : Int) ∈ r.bs) (fun _ => 1) (fun _ _ => Int.le_refl _) ((nbrs (one b) b []).map pl) Dk.nil
  have pos : ∀ p, ((st b p = 1 ∧ (near (st b) p : Int) ∈ r.ss) ∨ st b p + 1 < r.n) → 1 ≤ (if st b p = 1 ∧ (near (st b) p : Int) ∈ r.ss then 1 else st b p + 1) := fun p _ => by
    have := hb.dk.nonneg p
    split <;> omega
  obtain ⟨b1, b2⟩ := fold_puts (fun p => (st b p = 1 ∧ (near (st b) p : Int) ∈ r.ss) ∨ st b p + 1 < r.n) (fun p => if st b p = 1 ∧ (near (st b) p : Int) ∈ r.ss then 1 else st b p + 1) pos (b.map pl) a1
  refine ⟨b1, fun p => ?_⟩
  have e1 : st (nextC r b) p = _ := b2 p
  rw [e1, a2 p]
  have z : st [] p = 0 := rfl
  unfold nxt
  by_cases hp : p ∈ b.map pl
  · have h0 : st b p ≠ 0 := hb.dk.places.mp hp
    have h1 : ¬ (p ∈ (nbrs (one b) b []).map pl ∧ p ∉ b.map pl ∧ (near (st b) p : Int) ∈ r.bs) := fun q => q.2.1 hp
    rw [if_neg h0, if_neg h1, z]
    by_cases q1 : st b p = 1 ∧ (near (st b) p : Int) ∈ r.ss
    · rw [if_pos ⟨hp, .inl q1⟩, if_pos q1, if_pos q1]
    · rw [if_neg q1]
      by_cases q2 : st b p + 1 < r.n
      · rw [if_pos ⟨hp, .inr q2⟩, if_neg q1, if_pos q2]
      · rw [if_neg (fun q => by rcases q.2 with q | q; exact q1 q; exact q2 q), if_neg q2, if_neg q1]
  · have h0 : st b p = 0 := st_not hp
    rw [if_pos h0, if_neg fun q => hp q.1]
    by_cases q : (near (st b) p : Int) ∈ r.bs
    · have h2 : p ∈ (nbrs (one b) b []).map pl := by
        rw [c1.places, c2 p]
        have := ok.b2 _ q
        omega
      rw [if_pos ⟨h2, hp, q⟩, if_pos q]
    · rw [if_neg fun z => q z.2.2, if_neg q, z]
theorem rise_nextC {r : Rule} (ok : r.Ok) {b : List Cell} (hb : Good b) : rise (nextC r b) = step r b := by
  obtain ⟨h1, h2⟩ := nextC_st ok hb
  refine (rise_good h1).ext (step_good r b) fun p => ?_
  rw [rise_st h1, h2, st_step ok hb]
end VL

set_option Elab.async false
set_option linter.all false
set_option maxRecDepth 100000
set_option maxHeartbeats 400000
/-! VMd: step_in evaluated. -/
namespace VL
open PySem L2 PyProof.Rows

def rD (r : Rule) : D := .tup [nD r.bs, nD r.ss, .num r.n]
theorem mem_nums (k : Int) (ns : List Int) : decide (NestedKey.num k ∈ ns.map NestedKey.num) = decide (k ∈ ns) := by
  congr 1
  rw [List.mem_map]
  exact propext ⟨fun ⟨x, h, e⟩ => by cases e; exact h, fun h => ⟨k, h, rfl⟩⟩
theorem in_nums (k : Int) (ns : List Int) : inU (.im (.num k)) (.im (nD ns)) = some (.bl (decide (k ∈ ns))) := by
  show (if isNum (.num k) = true ∧ (ns.map NestedKey.num).all isNum = true then some (U.bl (decide (NestedKey.num k ∈ ns.map NestedKey.num))) else none) = _
  rw [if_pos ⟨rfl, List.all_eq_true.mpr fun x hx => by obtain ⟨i, _, rfl⟩ := List.mem_map.mp hx; rfl⟩, mem_nums]
theorem wOf_num (i : Int) : wOf (.im (.num i)) = some (.k (.num i)) := rfl
theorem sto_ev {i : Nat} {fe fk : Sh → Option U} {τ : Sh} {l : List Cell} {p : Pl} {s : Int} (h1 : fe τ = some (.im (.num s))) (h2 : fVar i τ = some (.dc (dK l))) (h3 : fk τ = some (.im (pD p))) (hl : l.length ≤ 1000000) : fSto i fe fk τ = some (.nx (τ.set i (some (.dc (dK (put l p s)))))) := by
  unfold fSto
  rw [h1, Option.bind_some, wOf_num, Option.bind_some, h2, Option.bind_some, h3, Option.bind_some]
  show (if (dK l).length < sizeLine then some (Res.nx (τ.set i (some (.dc (stoD (dK l) (pD p) (.k (.num s))))))) else none) = _
  rw [if_pos (lt_size (by unfold dK; rw [List.length_map]; exact hl)), sto_dK]
theorem dc_nil : U.dc [] = .dc (dK []) := rfl
/-- neighbours: the inner loops -/
def inn (x y : Int) (s : Int) (l : List Cell) (m : Int) : List Cell := if (s, m) = ((0, 0) : Pl) then l else bump l (x + s, y + m)
theorem inn_fold (x y : Int) (l : List Cell) : ([-1, 0, 1] : List Int).foldl (fun l s => ([-1, 0, 1] : List Int).foldl (inn x y s) l) l = around1 l (x, y) := by
  simp [inn, around1, nbs, pad]
theorem bump_len (l : List Cell) (p : Pl) : (bump l p).length ≤ l.length + 1 := put_len _ _ _
theorem pD_dec (p q : Pl) : decide (pD p = pD q) = decide (p = q) := by
  by_cases h : p = q
  · rw [decide_eq_true h, decide_eq_true (by rw [h])]
  · rw [decide_eq_false h, decide_eq_false fun z => h (pD_inj z)]
def gIn : Sh → Option Res := (fIfS (fB (f2 neU (fTup (fCons (fVar 4) (fCons (fVar 5) fNil))) (fTup (fCons (fC (.im (.num 0))) (fCons (fC (.im (.num 0))) fNil))))) (fSeq (fSet 6 [] (fTup (fCons (f2 addU (fVar 2) (fVar 4)) (fCons (f2 addU (fVar 3) (fVar 5)) fNil))))
    (fSto 1 (f2 addU (f3 getU (fVar 1) (fVar 6) (fC (.im (.num 0)))) (fC (.im (.num 1)))) (fVar 6))) fNext)
theorem gIn_ev (C : Nat) (hC : C ≤ 1000000) (u : U) (x y s m : Int) (l : List Cell) (o6 : Option U) (h : l.length + 1 ≤ C) : ∃ o6' , gIn [some u, some (.dc (dK l)), some (.im (.num x)), some (.im (.num y)), some (.im (.num s)), some (.im (.num m)), o6] = some (.nx [some u, some (.dc (dK (inn x y s l m))), some (.im (.num x)), some (.im (.num y)), some (.im (.num s)), some (.im (.num m)), o6']) ∧ (inn x y s l m).length ≤ l.length + 1 := by
  unfold inn
  by_cases e : (s, m) = ((0, 0) : Pl)
  · refine ⟨o6, ?_, by rw [if_pos e]; omega⟩
    simp only [gIn, fRet, fU, fAnd, fOr, fB, f1, f2, f3, fSeq, fNext, fIfS, fIf, fC, fSet, fDrop, fItems, itemsU_b, itemsU_ls, itemsU_tup, fTup, fLst, fCons, fConsF, fNil, fCall, fCallD, fNot, fChain, fUnp, fPar, setAllU, fVar_0, fVar_s, Option.bind_some, Option.bind_none, Option.map_some, isB_bl, eqU_im, eqU_ls, eqU_bb, neU_im, neU_ls, neU_bl, ltU_num, gtU_num, leU_num, geU_num, addU_num, subU_num, negU_num, isN_tup, isN_none, notN_tup, notN_none, ims_nil, ims_im, okAl_im, okAl_bl, okAl_nil, okRt_im, okRt_bl, okRt_nil, mut_im, mut_bl, mut_ls, mut_dc, lenU_tup, lenU_ls, tupU_tup, listU_tup, listU_ls, intU_num, ixU_tup, ixU_ls, ixU_dc, cutU_c, ixc0, ixc1, ixc2, ixp0, ixp1, mkTup_2, mkTup_3, mkTup_nil, mkLst_nil, okArgs_im, okArgs_nil, atI_0, atI_1, atI_2, isi_num_int, isi_num_bool, isi_tup_tuple, isi_num_tuple, wipeU, List.set_cons_zero, List.set_cons_succ, List.length_cons, List.length_nil, List.map_cons, List.map_nil, if_true, if_false, if_pos, Bool.false_eq_true, Bool.not_true, Bool.not_false, Bool.true_or, Bool.false_or, List.isEmpty_nil, List.isEmpty_cons, Option.map_none, pD_dec, e, decide_true]
  · refine ⟨some (.im (pD (x + s, y + m))), ?_, by rw [if_neg e]; exact bump_len _ _⟩
    simp only [gIn, fRet, fU, fAnd, fOr, fB, f1, f2, f3, fSeq, fNext, fIfS, fIf, fC, fSet, fDrop, fItems, itemsU_b, itemsU_ls, itemsU_tup, fTup, fLst, fCons, fConsF, fNil, fCall, fCallD, fNot, fChain, fUnp, fPar, setAllU, fVar_0, fVar_s, Option.bind_some, Option.bind_none, Option.map_some, isB_bl, eqU_im, eqU_ls, eqU_bb, neU_im, neU_ls, neU_bl, ltU_num, gtU_num, leU_num, geU_num, addU_num, subU_num, negU_num, isN_tup, isN_none, notN_tup, notN_none, ims_nil, ims_im, okAl_im, okAl_bl, okAl_nil, okRt_im, okRt_bl, okRt_nil, mut_im, mut_bl, mut_ls, mut_dc, lenU_tup, lenU_ls, tupU_tup, listU_tup, listU_ls, intU_num, ixU_tup, ixU_ls, ixU_dc, cutU_c, ixc0, ixc1, ixc2, ixp0, ixp1, mkTup_2, mkTup_3, mkTup_nil, mkLst_nil, okArgs_im, okArgs_nil, atI_0, atI_1, atI_2, isi_num_int, isi_num_bool, isi_tup_tuple, isi_num_tuple, wipeU, List.set_cons_zero, List.set_cons_succ, List.length_cons, List.length_nil, List.map_cons, List.map_nil, if_true, if_false, if_pos, Bool.false_eq_true, Bool.not_true, Bool.not_false, Bool.true_or, Bool.false_or, List.isEmpty_nil, List.isEmpty_cons, Option.map_none, pD_dec, e, decide_false]
    rw [sto_ev (l := l) (p := (x + s, y + m)) (s := st l (x + s, y + m) + 1) (by simp only [fRet, fU, fAnd, fOr, fB, f1, f2, f3, fSeq, fNext, fIfS, fIf, fC, fSet, fDrop, fItems, itemsU_b, itemsU_ls, itemsU_tup, fTup, fLst, fCons, fConsF, fNil, fCall, fCallD, fNot, fChain, fUnp, fPar, setAllU, fVar_0, fVar_s, Option.bind_some, Option.bind_none, Option.map_some, isB_bl, eqU_im, eqU_ls, eqU_bb, neU_im, neU_ls, neU_bl, ltU_num, gtU_num, leU_num, geU_num, addU_num, subU_num, negU_num, isN_tup, isN_none, notN_tup, notN_none, ims_nil, ims_im, okAl_im, okAl_bl, okAl_nil, okRt_im, okRt_bl, okRt_nil, mut_im, mut_bl, mut_ls, mut_dc, lenU_tup, lenU_ls, tupU_tup, listU_tup, listU_ls, intU_num, ixU_tup, ixU_ls, ixU_dc, cutU_c, ixc0, ixc1, ixc2, ixp0, ixp1, mkTup_2, mkTup_3, mkTup_nil, mkLst_nil, okArgs_im, okArgs_nil, atI_0, atI_1, atI_2, isi_num_int, isi_num_bool, isi_tup_tuple, isi_num_tuple, wipeU, List.set_cons_zero, List.set_cons_succ, List.length_cons, List.length_nil, List.map_cons, List.map_nil, if_true, if_false, if_pos, Bool.false_eq_true, Bool.not_true, Bool.not_false, Bool.true_or, Bool.false_or, List.isEmpty_nil, List.isEmpty_cons, Option.map_none, get_dK]) rfl rfl (by omega)]
    simp only [fRet, fU, fAnd, fOr, fB, f1, f2, f3, fSeq, fNext, fIfS, fIf, fC, fSet, fDrop, fItems, itemsU_b, itemsU_ls, itemsU_tup, fTup, fLst, fCons, fConsF, fNil, fCall, fCallD, fNot, fChain, fUnp, fPar, setAllU, fVar_0, fVar_s, Option.bind_some, Option.bind_none, Option.map_some, isB_bl, eqU_im, eqU_ls, eqU_bb, neU_im, neU_ls, neU_bl, ltU_num, gtU_num, leU_num, geU_num, addU_num, subU_num, negU_num, isN_tup, isN_none, notN_tup, notN_none, ims_nil, ims_im, okAl_im, okAl_bl, okAl_nil, okRt_im, okRt_bl, okRt_nil, mut_im, mut_bl, mut_ls, mut_dc, lenU_tup, lenU_ls, tupU_tup, listU_tup, listU_ls, intU_num, ixU_tup, ixU_ls, ixU_dc, cutU_c, ixc0, ixc1, ixc2, ixp0, ixp1, mkTup_2, mkTup_3, mkTup_nil, mkLst_nil, okArgs_im, okArgs_nil, atI_0, atI_1, atI_2, isi_num_int, isi_num_bool, isi_tup_tuple, isi_num_tuple, wipeU, List.set_cons_zero, List.set_cons_succ, List.length_cons, List.length_nil, List.map_cons, List.map_nil, if_true, if_false, if_pos, Bool.false_eq_true, Bool.not_true, Bool.not_false, Bool.true_or, Bool.false_or, List.isEmpty_nil, List.isEmpty_cons, Option.map_none]
    rfl
def gMid : Sh → Option Res := (fFor (fItems (fTup (fCons (f1 negU (fC (.im (.num 1)))) (fCons (fC (.im (.num 0))) (fCons (fC (.im (.num 1))) fNil))))) (bName 5) gIn)
theorem m101 : mkTup [.num (-1), .num 0, .num 1] = some (.im (.tup (([-1, 0, 1] : List Int).map .num))) := mkTup_3 (-1) 0 1
theorem it101 (τ : Sh) : fItems (fTup (fCons (f1 negU (fC (.im (.num 1)))) (fCons (fC (.im (.num 0))) (fCons (fC (.im (.num 1))) fNil)))) τ = some (([-1, 0, 1] : List Int).map .num) := by
  simp only [fItems, fTup, fCons, f1, fC, fNil, negU_num, Option.bind_some, ims_im, ims_nil, Option.map_some, m101, itemsU_tup]
theorem gMid_ev (C : Nat) (hC : C ≤ 1000000) (u : U) (x y s : Int) (l : List Cell) (o5 o6 : Option U) (k : Nat) (h : l.length + (3 + k) ≤ C) : ∃ o5' o6', gMid [some u, some (.dc (dK l)), some (.im (.num x)), some (.im (.num y)), some (.im (.num s)), o5, o6] = some (.nx [some u, some (.dc (dK (([-1, 0, 1] : List Int).foldl (inn x y s) l))), some (.im (.num x)), some (.im (.num y)), some (.im (.num s)), o5', o6']) ∧ (([-1, 0, 1] : List Int).foldl (inn x y s) l).length + k ≤ C := by
  unfold gMid fFor
  rw [it101, Option.bind_some]
  obtain ⟨τ', h1, o5', o6', rfl, h2⟩ := loopV_ix (b := bName 5) (g := gIn) NestedKey.num (fun n l τ => ∃ o5 o6, τ = [some u, some (.dc (dK l)), some (.im (.num x)), some (.im (.num y)), some (.im (.num s)), o5, o6] ∧ l.length + n ≤ C) (inn x y s) ([-1, 0, 1] : List Int) (fun m _ n l τ ⟨o5, o6, e, hl⟩ => by
    subst e
    obtain ⟨o6', e1, e2⟩ := gIn_ev C hC u x y s m l o6 (by omega)
    exact ⟨_, _, rfl, e1, _, o6', rfl, by omega⟩) k l _ ⟨o5, o6, rfl, h⟩
  exact ⟨o5', o6', h1, h2⟩
theorem gNb_ev (C : Nat) (hC : C ≤ 1000000) (u : U) (x y : Int) (l : List Cell) (o4 o5 o6 : Option U) (k : Nat) (h : l.length + (9 + k) ≤ C) : ∃ o4' o5' o6', fFor (fItems (fTup (fCons (f1 negU (fC (.im (.num 1)))) (fCons (fC (.im (.num 0))) (fCons (fC (.im (.num 1))) fNil))))) (bName 4) gMid [some u, some (.dc (dK l)), some (.im (.num x)), some (.im (.num y)), o4, o5, o6] = some (.nx [some u, some (.dc (dK (around1 l (x, y)))), some (.im (.num x)), some (.im (.num y)), o4', o5', o6']) ∧ (around1 l (x, y)).length + k ≤ C := by
  unfold fFor
  rw [it101, Option.bind_some, ← inn_fold]
  obtain ⟨τ', h1, o4', o5', o6', rfl, h2⟩ := loopV_ix (b := bName 4) (g := gMid) NestedKey.num (fun n l τ => ∃ o4 o5 o6, τ = [some u, some (.dc (dK l)), some (.im (.num x)), some (.im (.num y)), o4, o5, o6] ∧ l.length + (3 * n + k) ≤ C) (fun l s => ([-1, 0, 1] : List Int).foldl (inn x y s) l) ([-1, 0, 1] : List Int) (fun s _ n l τ ⟨o4, o5, o6, e, hl⟩ => by
    subst e
    obtain ⟨o5', o6', e1, e2⟩ := gMid_ev C hC u x y s l o5 o6 (3 * n + k) (by omega)
    exact ⟨_, _, rfl, e1, _, o5', o6', rfl, e2⟩) 0 l _ ⟨o4, o5, o6, rfl, by show l.length + (3 * (3 + 0) + k) ≤ C; omega⟩
  exact ⟨o4', o5', o6', h1, by omega⟩
theorem E_neighbours {b : List Cell} (hb : Good b) (hl : b.length ≤ 100000) : F_neighbours [.dc (dK b)] = some (.dc (dK (nbrs (one b) b []))) ∧ (nbrs (one b) b []).length ≤ 9 * b.length := by
  unfold F_neighbours runG
  have key : ∃ τ', loopV (bTup [2, 3]) (fIfS (fB (f2 eqU (f2 ixU (fVar 0) (fTup (fCons (fVar 2) (fCons (fVar 3) fNil)))) (fC (.im (.num 1))))) (fFor (fItems (fTup (fCons (f1 negU (fC (.im (.num 1)))) (fCons (fC (.im (.num 0))) (fCons (fC (.im (.num 1))) fNil))))) (bName 4) gMid) fNext) (b.map fun c => pD (pl c)) [some (.dc (dK b)), some (.dc (dK [])), none, none, none, none, none] = some (.nx τ') ∧ ∃ o2 o3 o4 o5 o6, τ' = [some (.dc (dK b)), some (.dc (dK (nbrs (one b) b []))), o2, o3, o4, o5, o6] ∧ (nbrs (one b) b []).length + 9 * 0 ≤ 9 * b.length := by
    refine loopV_ix (fun c => pD (pl c)) (fun n l τ => ∃ o2 o3 o4 o5 o6, τ = [some (.dc (dK b)), some (.dc (dK l)), o2, o3, o4, o5, o6] ∧ l.length + 9 * n ≤ 9 * b.length) (fun l c => if one b c = true then around1 l (pl c) else l) b (fun c hc n l τ ⟨o2, o3, o4, o5, o6, e, h⟩ => ?_) 0 [] _ ⟨none, none, none, none, none, rfl, by simp⟩
    subst e
    obtain ⟨x, y, s⟩ := c
    have hin : (x, y) ∈ b.map pl := List.mem_map.mpr ⟨_, hc, rfl⟩
    by_cases h1 : st b (x, y) = 1
    · obtain ⟨o4', o5', o6', e1, e2⟩ := gNb_ev (9 * b.length) (by omega) (.dc (dK b)) x y l o4 o5 o6 (9 * n) (by omega)
      refine ⟨_, _, bTup_2 x y _, ?_, some (.im (.num x)), some (.im (.num y)), o4', o5', o6', rfl, ?_⟩
      · simp only [fIfS, fB, f2, fRet, fU, fAnd, fOr, fB, f1, f2, f3, fSeq, fNext, fIfS, fIf, fC, fSet, fDrop, fItems, itemsU_b, itemsU_ls, itemsU_tup, fTup, fLst, fCons, fConsF, fNil, fCall, fCallD, fNot, fChain, fUnp, fPar, setAllU, fVar_0, fVar_s, Option.bind_some, Option.bind_none, Option.map_some, isB_bl, eqU_im, eqU_ls, eqU_bb, neU_im, neU_ls, neU_bl, ltU_num, gtU_num, leU_num, geU_num, addU_num, subU_num, negU_num, isN_tup, isN_none, notN_tup, notN_none, ims_nil, ims_im, okAl_im, okAl_bl, okAl_nil, okRt_im, okRt_bl, okRt_nil, mut_im, mut_bl, mut_ls, mut_dc, lenU_tup, lenU_ls, tupU_tup, listU_tup, listU_ls, intU_num, ixU_tup, ixU_ls, ixU_dc, cutU_c, ixc0, ixc1, ixc2, ixp0, ixp1, mkTup_2, mkTup_3, mkTup_nil, mkLst_nil, okArgs_im, okArgs_nil, atI_0, atI_1, atI_2, isi_num_int, isi_num_bool, isi_tup_tuple, isi_num_tuple, wipeU, List.set_cons_zero, List.set_cons_succ, List.length_cons, List.length_nil, List.map_cons, List.map_nil, if_true, if_false, if_pos, Bool.false_eq_true, Bool.not_true, Bool.not_false, Bool.true_or, Bool.false_or, List.isEmpty_nil, List.isEmpty_cons, Option.map_none, ix_dK hin, h1, decide_true]
        rw [show one b (x, y, s) = true from decide_eq_true h1, if_pos rfl]
        exact e1
      · rw [show one b (x, y, s) = true from decide_eq_true h1, if_pos rfl]
        exact e2
    · refine ⟨_, _, bTup_2 x y _, ?_, some (.im (.num x)), some (.im (.num y)), o4, o5, o6, rfl, ?_⟩
      · have h2 : decide (NestedKey.num (st b (x, y)) = .num 1) = false := decide_eq_false fun z => h1 (NestedKey.num.inj z)
        simp only [fIfS, fB, f2, fRet, fU, fAnd, fOr, fB, f1, f2, f3, fSeq, fNext, fIfS, fIf, fC, fSet, fDrop, fItems, itemsU_b, itemsU_ls, itemsU_tup, fTup, fLst, fCons, fConsF, fNil, fCall, fCallD, fNot, fChain, fUnp, fPar, setAllU, fVar_0, fVar_s, Option.bind_some, Option.bind_none, Option.map_some, isB_bl, eqU_im, eqU_ls, eqU_bb, neU_im, neU_ls, neU_bl, ltU_num, gtU_num, leU_num, geU_num, addU_num, subU_num, negU_num, isN_tup, isN_none, notN_tup, notN_none, ims_nil, ims_im, okAl_im, okAl_bl, okAl_nil, okRt_im, okRt_bl, okRt_nil, mut_im, mut_bl, mut_ls, mut_dc, lenU_tup, lenU_ls, tupU_tup, listU_tup, listU_ls, intU_num, ixU_tup, ixU_ls, ixU_dc, cutU_c, ixc0, ixc1, ixc2, ixp0, ixp1, mkTup_2, mkTup_3, mkTup_nil, mkLst_nil, okArgs_im, okArgs_nil, atI_0, atI_1, atI_2, isi_num_int, isi_num_bool, isi_tup_tuple, isi_num_tuple, wipeU, List.set_cons_zero, List.set_cons_succ, List.length_cons, List.length_nil, List.map_cons, List.map_nil, if_true, if_false, if_pos, Bool.false_eq_true, Bool.not_true, Bool.not_false, Bool.true_or, Bool.false_or, List.isEmpty_nil, List.isEmpty_cons, Option.map_none, ix_dK hin, h2]
        rw [show one b (x, y, s) = false from decide_eq_false h1, if_neg Bool.false_ne_true]
      · rw [show one b (x, y, s) = false from decide_eq_false h1, if_neg Bool.false_ne_true]
        omega
  obtain ⟨τ', k1, o2, o3, o4, o5, o6, rfl, k2⟩ := key
  refine ⟨?_, by omega⟩
  show (g_neighbours [some (.dc (dK b)), none, none, none, none, none, none]).bind _ = _
  have kk : (b.map pl).map pD = b.map fun c => pD (pl c) := by rw [List.map_map]; rfl
  have e0 : g_neighbours [some (.dc (dK b)), none, none, none, none, none, none] = (fSeq (fFor (fKeysI (fVar 0)) (bTup [2, 3]) (fIfS (fB (f2 eqU (f2 ixU (fVar 0) (fTup (fCons (fVar 2) (fCons (fVar 3) fNil)))) (fC (.im (.num 1))))) (fFor (fItems (fTup (fCons (f1 negU (fC (.im (.num 1)))) (fCons (fC (.im (.num 0))) (fCons (fC (.im (.num 1))) fNil))))) (bName 4) gMid) fNext)) (fRet [1] [1] (fVar 1))) [some (.dc (dK b)), some (.dc (dK [])), none, none, none, none, none] := rfl
  rw [e0]
  unfold fSeq fFor fKeysI
  rw [fVar_0, Option.bind_some, keys_dK, Option.bind_some, kk]
  have k1' := k1
  unfold fFor at k1'
  rw [k1', Option.bind_some]
  rfl
end VL

set_option Elab.async false
set_option linter.all false
set_option maxRecDepth 100000
set_option maxHeartbeats 400000
/-! VMe: next_cells, step_in. -/
namespace VL
open PySem L2 PyProof.Rows

def g1N : Sh → Option Res := (fIfS (fAnd (fB (f2 ninU (fVar 7) (fVar 1))) (fB (f2 inU (f2 ixU (fVar 5) (fVar 7)) (fVar 2)))) (fSto 6 (fC (.im (.num 1))) (fVar 7)) fNext)
def g2N : Sh → Option Res := (fSeq (fSet 8 [] (f2 ixU (fVar 1) (fVar 7)))
    (fIfS (fAnd (fB (f2 eqU (fVar 8) (fC (.im (.num 1))))) (fB (f2 inU (f3 getU (fVar 5) (fVar 7) (fC (.im (.num 0)))) (fVar 3)))) (fSto 6 (fC (.im (.num 1))) (fVar 7)) (fIfS (fB (f2 ltU (f2 addU (fVar 8) (fC (.im (.num 1)))) (fVar 4))) (fSto 6 (f2 addU (fVar 8) (fC (.im (.num 1)))) (fVar 7)) fNext)))
theorem num_dec (i j : Int) : decide (NestedKey.num i = NestedKey.num j) = decide (i = j) := by
  by_cases h : i = j
  · rw [decide_eq_true h, decide_eq_true (by rw [h])]
  · rw [decide_eq_false h, decide_eq_false fun z => h (NestedKey.num.inj z)]
abbrev fr9 (r : Rule) (b l : List Cell) (o7 o8 : Option U) : Sh := [some (.im (rD r)), some (.dc (dK b)), some (.im (nD r.bs)), some (.im (nD r.ss)), some (.im (.num r.n)), some (.dc (dK (nbrs (one b) b []))), some (.dc (dK l)), o7, o8]
theorem g1N_ev (r : Rule) {b : List Cell} (hb : Good b) (l : List Cell) (p : Pl) (o8 : Option U) (hp : p ∈ (nbrs (one b) b []).map pl) (h : l.length ≤ 1000000) : g1N (fr9 r b l (some (.im (pD p))) o8) = some (.nx (fr9 r b (if p ∉ b.map pl ∧ (near (st b) p : Int) ∈ r.bs then put l p 1 else l) (some (.im (pD p))) o8)) := by
  obtain ⟨c1, c2⟩ := counts_st hb
  simp only [g1N, fRet, fU, fAnd, fOr, fB, f1, f2, f3, fSeq, fNext, fIfS, fIf, fC, fSet, fDrop, fItems, itemsU_b, itemsU_ls, itemsU_tup, fTup, fLst, fCons, fConsF, fNil, fCall, fCallD, fNot, fChain, fUnp, fPar, setAllU, fVar_0, fVar_s, Option.bind_some, Option.bind_none, Option.map_some, isB_bl, eqU_im, eqU_ls, eqU_bb, neU_im, neU_ls, neU_bl, ltU_num, gtU_num, leU_num, geU_num, addU_num, subU_num, negU_num, isN_tup, isN_none, notN_tup, notN_none, ims_nil, ims_im, okAl_im, okAl_bl, okAl_nil, okRt_im, okRt_bl, okRt_nil, mut_im, mut_bl, mut_ls, mut_dc, lenU_tup, lenU_ls, tupU_tup, listU_tup, listU_ls, intU_num, ixU_tup, ixU_ls, ixU_dc, cutU_c, ixc0, ixc1, ixc2, ixp0, ixp1, mkTup_2, mkTup_3, mkTup_nil, mkLst_nil, okArgs_im, okArgs_nil, atI_0, atI_1, atI_2, isi_num_int, isi_num_bool, isi_tup_tuple, isi_num_tuple, wipeU, List.set_cons_zero, List.set_cons_succ, List.length_cons, List.length_nil, List.map_cons, List.map_nil, if_true, if_false, if_pos, Bool.false_eq_true, Bool.not_true, Bool.not_false, Bool.true_or, Bool.false_or, List.isEmpty_nil, List.isEmpty_cons, Option.map_none, nin_dK, ix_dK hp, c2 p, in_nums]
  by_cases q1 : p ∈ b.map pl
  · have q1' : ¬ (p ∉ b.map pl ∧ (near (st b) p : Int) ∈ r.bs) := fun z => z.1 q1
    simp only [decide_eq_true q1, fRet, fU, fAnd, fOr, fB, f1, f2, f3, fSeq, fNext, fIfS, fIf, fC, fSet, fDrop, fItems, itemsU_b, itemsU_ls, itemsU_tup, fTup, fLst, fCons, fConsF, fNil, fCall, fCallD, fNot, fChain, fUnp, fPar, setAllU, fVar_0, fVar_s, Option.bind_some, Option.bind_none, Option.map_some, isB_bl, eqU_im, eqU_ls, eqU_bb, neU_im, neU_ls, neU_bl, ltU_num, gtU_num, leU_num, geU_num, addU_num, subU_num, negU_num, isN_tup, isN_none, notN_tup, notN_none, ims_nil, ims_im, okAl_im, okAl_bl, okAl_nil, okRt_im, okRt_bl, okRt_nil, mut_im, mut_bl, mut_ls, mut_dc, lenU_tup, lenU_ls, tupU_tup, listU_tup, listU_ls, intU_num, ixU_tup, ixU_ls, ixU_dc, cutU_c, ixc0, ixc1, ixc2, ixp0, ixp1, mkTup_2, mkTup_3, mkTup_nil, mkLst_nil, okArgs_im, okArgs_nil, atI_0, atI_1, atI_2, isi_num_int, isi_num_bool, isi_tup_tuple, isi_num_tuple, wipeU, List.set_cons_zero, List.set_cons_succ, List.length_cons, List.length_nil, List.map_cons, List.map_nil, if_true, if_false, if_pos, Bool.false_eq_true, Bool.not_true, Bool.not_false, Bool.true_or, Bool.false_or, List.isEmpty_nil, List.isEmpty_cons, Option.map_none, if_neg q1']
  · by_cases q2 : (near (st b) p : Int) ∈ r.bs
    · have q' : (p ∉ b.map pl ∧ (near (st b) p : Int) ∈ r.bs) := ⟨q1, q2⟩
      rw [if_pos q']
      simp only [decide_eq_false q1, decide_eq_true q2, fRet, fU, fAnd, fOr, fB, f1, f2, f3, fSeq, fNext, fIfS, fIf, fC, fSet, fDrop, fItems, itemsU_b, itemsU_ls, itemsU_tup, fTup, fLst, fCons, fConsF, fNil, fCall, fCallD, fNot, fChain, fUnp, fPar, setAllU, fVar_0, fVar_s, Option.bind_some, Option.bind_none, Option.map_some, isB_bl, eqU_im, eqU_ls, eqU_bb, neU_im, neU_ls, neU_bl, ltU_num, gtU_num, leU_num, geU_num, addU_num, subU_num, negU_num, isN_tup, isN_none, notN_tup, notN_none, ims_nil, ims_im, okAl_im, okAl_bl, okAl_nil, okRt_im, okRt_bl, okRt_nil, mut_im, mut_bl, mut_ls, mut_dc, lenU_tup, lenU_ls, tupU_tup, listU_tup, listU_ls, intU_num, ixU_tup, ixU_ls, ixU_dc, cutU_c, ixc0, ixc1, ixc2, ixp0, ixp1, mkTup_2, mkTup_3, mkTup_nil, mkLst_nil, okArgs_im, okArgs_nil, atI_0, atI_1, atI_2, isi_num_int, isi_num_bool, isi_tup_tuple, isi_num_tuple, wipeU, List.set_cons_zero, List.set_cons_succ, List.length_cons, List.length_nil, List.map_cons, List.map_nil, if_true, if_false, if_pos, Bool.false_eq_true, Bool.not_true, Bool.not_false, Bool.true_or, Bool.false_or, List.isEmpty_nil, List.isEmpty_cons, Option.map_none]
      rw [sto_ev (l := l) (p := p) (s := 1) rfl rfl rfl h]
      rfl
    · have q1' : ¬ (p ∉ b.map pl ∧ (near (st b) p : Int) ∈ r.bs) := fun z => q2 z.2
      simp only [decide_eq_false q1, decide_eq_false q2, fRet, fU, fAnd, fOr, fB, f1, f2, f3, fSeq, fNext, fIfS, fIf, fC, fSet, fDrop, fItems, itemsU_b, itemsU_ls, itemsU_tup, fTup, fLst, fCons, fConsF, fNil, fCall, fCallD, fNot, fChain, fUnp, fPar, setAllU, fVar_0, fVar_s, Option.bind_some, Option.bind_none, Option.map_some, isB_bl, eqU_im, eqU_ls, eqU_bb, neU_im, neU_ls, neU_bl, ltU_num, gtU_num, leU_num, geU_num, addU_num, subU_num, negU_num, isN_tup, isN_none, notN_tup, notN_none, ims_nil, ims_im, okAl_im, okAl_bl, okAl_nil, okRt_im, okRt_bl, okRt_nil, mut_im, mut_bl, mut_ls, mut_dc, lenU_tup, lenU_ls, tupU_tup, listU_tup, listU_ls, intU_num, ixU_tup, ixU_ls, ixU_dc, cutU_c, ixc0, ixc1, ixc2, ixp0, ixp1, mkTup_2, mkTup_3, mkTup_nil, mkLst_nil, okArgs_im, okArgs_nil, atI_0, atI_1, atI_2, isi_num_int, isi_num_bool, isi_tup_tuple, isi_num_tuple, wipeU, List.set_cons_zero, List.set_cons_succ, List.length_cons, List.length_nil, List.map_cons, List.map_nil, if_true, if_false, if_pos, Bool.false_eq_true, Bool.not_true, Bool.not_false, Bool.true_or, Bool.false_or, List.isEmpty_nil, List.isEmpty_cons, Option.map_none, if_neg q1']
theorem g2N_ev (r : Rule) {b : List Cell} (hb : Good b) (l : List Cell) (p : Pl) (o8 : Option U) (hp : p ∈ b.map pl) (h : l.length ≤ 1000000) : ∃ o8', g2N (fr9 r b l (some (.im (pD p))) o8) = some (.nx (fr9 r b (if (st b p = 1 ∧ (near (st b) p : Int) ∈ r.ss) ∨ st b p + 1 < r.n then put l p (if st b p = 1 ∧ (near (st b) p : Int) ∈ r.ss then 1 else st b p + 1) else l) (some (.im (pD p))) o8')) := by
  obtain ⟨c1, c2⟩ := counts_st hb
  refine ⟨some (.im (.num (st b p))), ?_⟩
  simp only [g2N, fRet, fU, fAnd, fOr, fB, f1, f2, f3, fSeq, fNext, fIfS, fIf, fC, fSet, fDrop, fItems, itemsU_b, itemsU_ls, itemsU_tup, fTup, fLst, fCons, fConsF, fNil, fCall, fCallD, fNot, fChain, fUnp, fPar, setAllU, fVar_0, fVar_s, Option.bind_some, Option.bind_none, Option.map_some, isB_bl, eqU_im, eqU_ls, eqU_bb, neU_im, neU_ls, neU_bl, ltU_num, gtU_num, leU_num, geU_num, addU_num, subU_num, negU_num, isN_tup, isN_none, notN_tup, notN_none, ims_nil, ims_im, okAl_im, okAl_bl, okAl_nil, okRt_im, okRt_bl, okRt_nil, mut_im, mut_bl, mut_ls, mut_dc, lenU_tup, lenU_ls, tupU_tup, listU_tup, listU_ls, intU_num, ixU_tup, ixU_ls, ixU_dc, cutU_c, ixc0, ixc1, ixc2, ixp0, ixp1, mkTup_2, mkTup_3, mkTup_nil, mkLst_nil, okArgs_im, okArgs_nil, atI_0, atI_1, atI_2, isi_num_int, isi_num_bool, isi_tup_tuple, isi_num_tuple, wipeU, List.set_cons_zero, List.set_cons_succ, List.length_cons, List.length_nil, List.map_cons, List.map_nil, if_true, if_false, if_pos, Bool.false_eq_true, Bool.not_true, Bool.not_false, Bool.true_or, Bool.false_or, List.isEmpty_nil, List.isEmpty_cons, Option.map_none, ix_dK hp, get_dK, c2 p, in_nums, num_dec]
  by_cases q1 : st b p = 1 ∧ (near (st b) p : Int) ∈ r.ss
  · rw [if_pos (show (st b p = 1 ∧ (near (st b) p : Int) ∈ r.ss) ∨ st b p + 1 < r.n from .inl q1), if_pos q1]
    simp only [decide_eq_true q1.1, decide_eq_true q1.2, fRet, fU, fAnd, fOr, fB, f1, f2, f3, fSeq, fNext, fIfS, fIf, fC, fSet, fDrop, fItems, itemsU_b, itemsU_ls, itemsU_tup, fTup, fLst, fCons, fConsF, fNil, fCall, fCallD, fNot, fChain, fUnp, fPar, setAllU, fVar_0, fVar_s, Option.bind_some, Option.bind_none, Option.map_some, isB_bl, eqU_im, eqU_ls, eqU_bb, neU_im, neU_ls, neU_bl, ltU_num, gtU_num, leU_num, geU_num, addU_num, subU_num, negU_num, isN_tup, isN_none, notN_tup, notN_none, ims_nil, ims_im, okAl_im, okAl_bl, okAl_nil, okRt_im, okRt_bl, okRt_nil, mut_im, mut_bl, mut_ls, mut_dc, lenU_tup, lenU_ls, tupU_tup, listU_tup, listU_ls, intU_num, ixU_tup, ixU_ls, ixU_dc, cutU_c, ixc0, ixc1, ixc2, ixp0, ixp1, mkTup_2, mkTup_3, mkTup_nil, mkLst_nil, okArgs_im, okArgs_nil, atI_0, atI_1, atI_2, isi_num_int, isi_num_bool, isi_tup_tuple, isi_num_tuple, wipeU, List.set_cons_zero, List.set_cons_succ, List.length_cons, List.length_nil, List.map_cons, List.map_nil, if_true, if_false, if_pos, Bool.false_eq_true, Bool.not_true, Bool.not_false, Bool.true_or, Bool.false_or, List.isEmpty_nil, List.isEmpty_cons, Option.map_none]
    rw [sto_ev (l := l) (p := p) (s := 1) rfl rfl rfl h]
    rfl
  · have e1 : (if decide (st b p = 1) = true then some (decide ((near (st b) p : Int) ∈ r.ss)) else some false) = some false := by
      by_cases a : st b p = 1
      · have a2 : ¬ (near (st b) p : Int) ∈ r.ss := fun z => q1 ⟨a, z⟩
        rw [decide_eq_true a, if_pos rfl, decide_eq_false a2]
      · rw [decide_eq_false a, if_neg Bool.false_ne_true]
    rw [e1]
    simp only [fRet, fU, fAnd, fOr, fB, f1, f2, f3, fSeq, fNext, fIfS, fIf, fC, fSet, fDrop, fItems, itemsU_b, itemsU_ls, itemsU_tup, fTup, fLst, fCons, fConsF, fNil, fCall, fCallD, fNot, fChain, fUnp, fPar, setAllU, fVar_0, fVar_s, Option.bind_some, Option.bind_none, Option.map_some, isB_bl, eqU_im, eqU_ls, eqU_bb, neU_im, neU_ls, neU_bl, ltU_num, gtU_num, leU_num, geU_num, addU_num, subU_num, negU_num, isN_tup, isN_none, notN_tup, notN_none, ims_nil, ims_im, okAl_im, okAl_bl, okAl_nil, okRt_im, okRt_bl, okRt_nil, mut_im, mut_bl, mut_ls, mut_dc, lenU_tup, lenU_ls, tupU_tup, listU_tup, listU_ls, intU_num, ixU_tup, ixU_ls, ixU_dc, cutU_c, ixc0, ixc1, ixc2, ixp0, ixp1, mkTup_2, mkTup_3, mkTup_nil, mkLst_nil, okArgs_im, okArgs_nil, atI_0, atI_1, atI_2, isi_num_int, isi_num_bool, isi_tup_tuple, isi_num_tuple, wipeU, List.set_cons_zero, List.set_cons_succ, List.length_cons, List.length_nil, List.map_cons, List.map_nil, if_true, if_false, if_pos, Bool.false_eq_true, Bool.not_true, Bool.not_false, Bool.true_or, Bool.false_or, List.isEmpty_nil, List.isEmpty_cons, Option.map_none]
    by_cases q2 : st b p + 1 < r.n
    · rw [if_pos (show (st b p = 1 ∧ (near (st b) p : Int) ∈ r.ss) ∨ st b p + 1 < r.n from .inr q2), if_neg q1, if_pos (decide_eq_true q2)]
      rw [sto_ev (l := l) (p := p) (s := st b p + 1) (by simp only [fRet, fU, fAnd, fOr, fB, f1, f2, f3, fSeq, fNext, fIfS, fIf, fC, fSet, fDrop, fItems, itemsU_b, itemsU_ls, itemsU_tup, fTup, fLst, fCons, fConsF, fNil, fCall, fCallD, fNot, fChain, fUnp, fPar, setAllU, fVar_0, fVar_s, Option.bind_some, Option.bind_none, Option.map_some, isB_bl, eqU_im, eqU_ls, eqU_bb, neU_im, neU_ls, neU_bl, ltU_num, gtU_num, leU_num, geU_num, addU_num, subU_num, negU_num, isN_tup, isN_none, notN_tup, notN_none, ims_nil, ims_im, okAl_im, okAl_bl, okAl_nil, okRt_im, okRt_bl, okRt_nil, mut_im, mut_bl, mut_ls, mut_dc, lenU_tup, lenU_ls, tupU_tup, listU_tup, listU_ls, intU_num, ixU_tup, ixU_ls, ixU_dc, cutU_c, ixc0, ixc1, ixc2, ixp0, ixp1, mkTup_2, mkTup_3, mkTup_nil, mkLst_nil, okArgs_im, okArgs_nil, atI_0, atI_1, atI_2, isi_num_int, isi_num_bool, isi_tup_tuple, isi_num_tuple, wipeU, List.set_cons_zero, List.set_cons_succ, List.length_cons, List.length_nil, List.map_cons, List.map_nil, if_true, if_false, if_pos, Bool.false_eq_true, Bool.not_true, Bool.not_false, Bool.true_or, Bool.false_or, List.isEmpty_nil, List.isEmpty_cons, Option.map_none]) rfl rfl h]
      rfl
    · rw [if_neg (show ¬ ((st b p = 1 ∧ (near (st b) p : Int) ∈ r.ss) ∨ st b p + 1 < r.n) from fun z => by rcases z with z | z; exact q1 z; exact q2 z), if_neg (by rw [decide_eq_false q2]; exact Bool.false_ne_true)]
theorem put_if_len {c : Prop} [Decidable c] (l : List Cell) (p : Pl) (s : Int) : (if c then put l p s else l).length ≤ l.length + 1 := by
  split
  · exact put_len _ _ _
  · omega
theorem E_next_cells {r : Rule} {b : List Cell} (hb : Good b) (hl : b.length ≤ 10000) : F_next_cells [.im (rD r), .dc (dK b)] = some (.dc (dK (nextC r b))) ∧ (nextC r b).length ≤ 10 * b.length := by
  obtain ⟨n1, n2⟩ := E_neighbours hb (by omega)
  obtain ⟨τ1, a1, o7, rfl, a2⟩ := loopV_ix (b := bName 7) (g := g1N) pD (fun n l τ => ∃ o7, τ = fr9 r b l o7 none ∧ l.length + n ≤ 9 * b.length) (fun l p => if p ∉ b.map pl ∧ (near (st b) p : Int) ∈ r.bs then put l p 1 else l) ((nbrs (one b) b []).map pl) (fun p hp n l τ ⟨o7, e, h⟩ => by
    subst e
    refine ⟨_, _, rfl, g1N_ev r hb l p none hp (by omega), _, rfl, ?_⟩
    have := put_if_len (c := p ∉ b.map pl ∧ (near (st b) p : Int) ∈ r.bs) l p 1
    omega) 0 [] _ ⟨none, rfl, by rw [List.length_map]; simpa using n2⟩
  generalize hl1 : (((nbrs (one b) b []).map pl).foldl (fun l p => if p ∉ b.map pl ∧ (near (st b) p : Int) ∈ r.bs then put l p 1 else l) []) = l1 at a1 a2
  obtain ⟨τ2, b1, o7', o8', rfl, b2⟩ := loopV_ix (b := bName 7) (g := g2N) pD (fun n l τ => ∃ o7 o8, τ = fr9 r b l o7 o8 ∧ l.length + n ≤ 10 * b.length) (fun l p => if (st b p = 1 ∧ (near (st b) p : Int) ∈ r.ss) ∨ st b p + 1 < r.n then put l p (if st b p = 1 ∧ (near (st b) p : Int) ∈ r.ss then 1 else st b p + 1) else l) (b.map pl) (fun p hp n l τ ⟨o7, o8, e, h⟩ => by
    subst e
    obtain ⟨o8', e8⟩ := g2N_ev r hb l p o8 hp (by omega)
    refine ⟨_, _, rfl, e8, _, o8', rfl, ?_⟩
    have := put_if_len (c := (st b p = 1 ∧ (near (st b) p : Int) ∈ r.ss) ∨ st b p + 1 < r.n) l p (if st b p = 1 ∧ (near (st b) p : Int) ∈ r.ss then 1 else st b p + 1)
    omega) 0 l1 _ ⟨o7, none, rfl, by rw [List.length_map]; omega⟩
  have e3 : nextC r b = (b.map pl).foldl (fun l p => if (st b p = 1 ∧ (near (st b) p : Int) ∈ r.ss) ∨ st b p + 1 < r.n then put l p (if st b p = 1 ∧ (near (st b) p : Int) ∈ r.ss then 1 else st b p + 1) else l) l1 := by rw [← hl1]; rfl
  rw [← e3] at b1 b2
  refine ⟨?_, by omega⟩
  unfold F_next_cells runG
  show (g_next_cells [some (.im (rD r)), some (.dc (dK b)), none, none, none, none, none, none, none]).bind _ = _
  have s1 : fUnp [2, 3, 4] (fVar 0) [some (.im (rD r)), some (.dc (dK b)), none, none, none, none, none, none, none] = some (.nx [some (.im (rD r)), some (.dc (dK b)), some (.im (nD r.bs)), some (.im (nD r.ss)), some (.im (.num r.n)), none, none, none, none]) := rfl
  have s2 : fPar [5, 6] (fConsF [] (fCallD F_neighbours (fCons (fVar 1) fNil)) (fConsF [] (fC (.dc [])) fNil)) [some (.im (rD r)), some (.dc (dK b)), some (.im (nD r.bs)), some (.im (nD r.ss)), some (.im (.num r.n)), none, none, none, none] = some (.nx (fr9 r b [] none none)) := by
    simp only [fRet, fU, fAnd, fOr, fB, f1, f2, f3, fSeq, fNext, fIfS, fIf, fC, fSet, fDrop, fItems, itemsU_b, itemsU_ls, itemsU_tup, fTup, fLst, fCons, fConsF, fNil, fCall, fCallD, fNot, fChain, fUnp, fPar, setAllU, fVar_0, fVar_s, Option.bind_some, Option.bind_none, Option.map_some, isB_bl, eqU_im, eqU_ls, eqU_bb, neU_im, neU_ls, neU_bl, ltU_num, gtU_num, leU_num, geU_num, addU_num, subU_num, negU_num, isN_tup, isN_none, notN_tup, notN_none, ims_nil, ims_im, okAl_im, okAl_bl, okAl_nil, okRt_im, okRt_bl, okRt_nil, mut_im, mut_bl, mut_ls, mut_dc, lenU_tup, lenU_ls, tupU_tup, listU_tup, listU_ls, intU_num, ixU_tup, ixU_ls, ixU_dc, cutU_c, ixc0, ixc1, ixc2, ixp0, ixp1, mkTup_2, mkTup_3, mkTup_nil, mkLst_nil, okArgs_im, okArgs_nil, atI_0, atI_1, atI_2, isi_num_int, isi_num_bool, isi_tup_tuple, isi_num_tuple, wipeU, List.set_cons_zero, List.set_cons_succ, List.length_cons, List.length_nil, List.map_cons, List.map_nil, if_true, if_false, if_pos, Bool.false_eq_true, Bool.not_true, Bool.not_false, Bool.true_or, Bool.false_or, List.isEmpty_nil, List.isEmpty_cons, Option.map_none, okArgs_1, n1, Bool.or_true]
    rfl
  have s3 : fFor (fKeysI (fVar 5)) (bName 7) g1N (fr9 r b [] none none) = some (.nx (fr9 r b l1 o7 none)) := (by
    unfold fFor fKeysI
    show ((some (U.dc (dK (nbrs (one b) b [])))).bind keysU).bind _ = _
    rw [Option.bind_some, keys_dK, Option.bind_some]
    exact a1)
  have s4 : fFor (fKeysI (fVar 1)) (bName 7) g2N (fr9 r b l1 o7 none) = some (.nx (fr9 r b (nextC r b) o7' o8')) := (by
    unfold fFor fKeysI
    show ((some (U.dc (dK b))).bind keysU).bind _ = _
    rw [Option.bind_some, keys_dK, Option.bind_some]
    exact b1)
  have e0 : g_next_cells = fSeq (fUnp [2, 3, 4] (fVar 0)) (fSeq (fPar [5, 6] (fConsF [] (fCallD F_neighbours (fCons (fVar 1) fNil)) (fConsF [] (fC (.dc [])) fNil))) (fSeq (fFor (fKeysI (fVar 5)) (bName 7) g1N) (fSeq (fFor (fKeysI (fVar 1)) (bName 7) g2N) (fRet [6] [6] (fVar 6))))) := rfl
  rw [e0]
  unfold fSeq
  rw [s1, Option.bind_some]
  dsimp only
  rw [s2, Option.bind_some]
  dsimp only
  rw [s3, Option.bind_some]
  dsimp only
  rw [s4, Option.bind_some]
  rfl
theorem far60 : (10000 : Int) < 10 ^ 60 := by decide
theorem E_need_small {b : List Cell} (h : b.length ≤ 3000) : F_need_small [.im (bD b)] = some (.im .none) := by
  unfold F_need_small runG
  show (g_need_small [some (.im (bD b))]).bind _ = _
  have e : decide ((3000 : Int) < (b.length : Int)) = false := decide_eq_false (by omega)
  simp only [g_need_small, fRet, fU, fAnd, fOr, fB, f1, f2, f3, fSeq, fNext, fIfS, fIf, fC, fSet, fDrop, fItems, itemsU_b, itemsU_ls, itemsU_tup, fTup, fLst, fCons, fConsF, fNil, fCall, fCallD, fNot, fChain, fUnp, fPar, setAllU, fVar_0, fVar_s, Option.bind_some, Option.bind_none, Option.map_some, isB_bl, eqU_im, eqU_ls, eqU_bb, neU_im, neU_ls, neU_bl, ltU_num, gtU_num, leU_num, geU_num, addU_num, subU_num, negU_num, isN_tup, isN_none, notN_tup, notN_none, ims_nil, ims_im, okAl_im, okAl_bl, okAl_nil, okRt_im, okRt_bl, okRt_nil, mut_im, mut_bl, mut_ls, mut_dc, lenU_tup, lenU_ls, tupU_tup, listU_tup, listU_ls, intU_num, ixU_tup, ixU_ls, ixU_dc, cutU_c, ixc0, ixc1, ixc2, ixp0, ixp1, mkTup_2, mkTup_3, mkTup_nil, mkLst_nil, okArgs_im, okArgs_nil, atI_0, atI_1, atI_2, isi_num_int, isi_num_bool, isi_tup_tuple, isi_num_tuple, wipeU, List.set_cons_zero, List.set_cons_succ, List.length_cons, List.length_nil, List.map_cons, List.map_nil, if_true, if_false, if_pos, Bool.false_eq_true, Bool.not_true, Bool.not_false, Bool.true_or, Bool.false_or, List.isEmpty_nil, List.isEmpty_cons, Option.map_none, lenU_b, e]
theorem E_is_beyond {b : List Cell} (L : Lim b) (hn : b ≠ []) : F_is_beyond [.im (bD b)] = some (.bl false) := by
  obtain ⟨d, hd, ed⟩ := ixb_last hn
  unfold F_is_beyond runG
  show (g_is_beyond [some (.im (bD b)), none, none]).bind _ = _
  have hs : b.length < sizeLine := lt_size (by have := L.len; omega)
  simp only [g_is_beyond, fRet, fU, fAnd, fOr, fB, f1, f2, f3, fSeq, fNext, fIfS, fIf, fC, fSet, fDrop, fItems, itemsU_b, itemsU_ls, itemsU_tup, fTup, fLst, fCons, fConsF, fNil, fCall, fCallD, fNot, fChain, fUnp, fPar, setAllU, fVar_0, fVar_s, Option.bind_some, Option.bind_none, Option.map_some, isB_bl, eqU_im, eqU_ls, eqU_bb, neU_im, neU_ls, neU_bl, ltU_num, gtU_num, leU_num, geU_num, addU_num, subU_num, negU_num, isN_tup, isN_none, notN_tup, notN_none, ims_nil, ims_im, okAl_im, okAl_bl, okAl_nil, okRt_im, okRt_bl, okRt_nil, mut_im, mut_bl, mut_ls, mut_dc, lenU_tup, lenU_ls, tupU_tup, listU_tup, listU_ls, intU_num, ixU_tup, ixU_ls, ixU_dc, cutU_c, ixc0, ixc1, ixc2, ixp0, ixp1, mkTup_2, mkTup_3, mkTup_nil, mkLst_nil, okArgs_im, okArgs_nil, atI_0, atI_1, atI_2, isi_num_int, isi_num_bool, isi_tup_tuple, isi_num_tuple, wipeU, List.set_cons_zero, List.set_cons_succ, List.length_cons, List.length_nil, List.map_cons, List.map_nil, if_true, if_false, if_pos, Bool.false_eq_true, Bool.not_true, Bool.not_false, Bool.true_or, Bool.false_or, List.isEmpty_nil, List.isEmpty_cons, Option.map_none, fLc, List.length_map, hs]
  rw [lc_y (i := 2) (j := 0) (τ' := []) b (fun c => rfl)]
  obtain ⟨c1, hc1, m1⟩ := mnF_mem (f := fun c => c.2.1) hn
  obtain ⟨c2, hc2, m2⟩ := mxF_mem (f := fun c => c.2.1) hn
  have f1 := L.far c1 hc1
  have f2 := L.far c2 hc2
  have f3 := L.far d hd
  have h60 := far60
  simp only [fRet, fU, fAnd, fOr, fB, f1, f2, f3, fSeq, fNext, fIfS, fIf, fC, fSet, fDrop, fItems, itemsU_b, itemsU_ls, itemsU_tup, fTup, fLst, fCons, fConsF, fNil, fCall, fCallD, fNot, fChain, fUnp, fPar, setAllU, fVar_0, fVar_s, Option.bind_some, Option.bind_none, Option.map_some, isB_bl, eqU_im, eqU_ls, eqU_bb, neU_im, neU_ls, neU_bl, ltU_num, gtU_num, leU_num, geU_num, addU_num, subU_num, negU_num, isN_tup, isN_none, notN_tup, notN_none, ims_nil, ims_im, okAl_im, okAl_bl, okAl_nil, okRt_im, okRt_bl, okRt_nil, mut_im, mut_bl, mut_ls, mut_dc, lenU_tup, lenU_ls, tupU_tup, listU_tup, listU_ls, intU_num, ixU_tup, ixU_ls, ixU_dc, cutU_c, ixc0, ixc1, ixc2, ixp0, ixp1, mkTup_2, mkTup_3, mkTup_nil, mkLst_nil, okArgs_im, okArgs_nil, atI_0, atI_1, atI_2, isi_num_int, isi_num_bool, isi_tup_tuple, isi_num_tuple, wipeU, List.set_cons_zero, List.set_cons_succ, List.length_cons, List.length_nil, List.map_cons, List.map_nil, if_true, if_false, if_pos, Bool.false_eq_true, Bool.not_true, Bool.not_false, Bool.true_or, Bool.false_or, List.isEmpty_nil, List.isEmpty_cons, Option.map_none, minU_f hn, maxU_f hn, ed, m1, m2]
  cases b with
  | nil => exact absurd rfl hn
  | cons c t =>
    have f0 := L.far c List.mem_cons_self
    simp only [fRet, fU, fAnd, fOr, fB, f1, f2, f3, fSeq, fNext, fIfS, fIf, fC, fSet, fDrop, fItems, itemsU_b, itemsU_ls, itemsU_tup, fTup, fLst, fCons, fConsF, fNil, fCall, fCallD, fNot, fChain, fUnp, fPar, setAllU, fVar_0, fVar_s, Option.bind_some, Option.bind_none, Option.map_some, isB_bl, eqU_im, eqU_ls, eqU_bb, neU_im, neU_ls, neU_bl, ltU_num, gtU_num, leU_num, geU_num, addU_num, subU_num, negU_num, isN_tup, isN_none, notN_tup, notN_none, ims_nil, ims_im, okAl_im, okAl_bl, okAl_nil, okRt_im, okRt_bl, okRt_nil, mut_im, mut_bl, mut_ls, mut_dc, lenU_tup, lenU_ls, tupU_tup, listU_tup, listU_ls, intU_num, ixU_tup, ixU_ls, ixU_dc, cutU_c, ixc0, ixc1, ixc2, ixp0, ixp1, mkTup_2, mkTup_3, mkTup_nil, mkLst_nil, okArgs_im, okArgs_nil, atI_0, atI_1, atI_2, isi_num_int, isi_num_bool, isi_tup_tuple, isi_num_tuple, wipeU, List.set_cons_zero, List.set_cons_succ, List.length_cons, List.length_nil, List.map_cons, List.map_nil, if_true, if_false, if_pos, Bool.false_eq_true, Bool.not_true, Bool.not_false, Bool.true_or, Bool.false_or, List.isEmpty_nil, List.isEmpty_cons, Option.map_none, ixb_0]
    have e1 : decide (c.1 < -(10 ^ 60)) = false := decide_eq_false (by omega)
    have e2 : decide ((10 ^ 60 : Int) < d.1) = false := decide_eq_false (by omega)
    have e3 : decide (c1.2.1 < -(10 ^ 60)) = false := decide_eq_false (by omega)
    have e4 : decide ((10 ^ 60 : Int) < c2.2.1) = false := decide_eq_false (by omega)
    simp only [e1, e2, e3, e4, fRet, fU, fAnd, fOr, fB, f1, f2, f3, fSeq, fNext, fIfS, fIf, fC, fSet, fDrop, fItems, itemsU_b, itemsU_ls, itemsU_tup, fTup, fLst, fCons, fConsF, fNil, fCall, fCallD, fNot, fChain, fUnp, fPar, setAllU, fVar_0, fVar_s, Option.bind_some, Option.bind_none, Option.map_some, isB_bl, eqU_im, eqU_ls, eqU_bb, neU_im, neU_ls, neU_bl, ltU_num, gtU_num, leU_num, geU_num, addU_num, subU_num, negU_num, isN_tup, isN_none, notN_tup, notN_none, ims_nil, ims_im, okAl_im, okAl_bl, okAl_nil, okRt_im, okRt_bl, okRt_nil, mut_im, mut_bl, mut_ls, mut_dc, lenU_tup, lenU_ls, tupU_tup, listU_tup, listU_ls, intU_num, ixU_tup, ixU_ls, ixU_dc, cutU_c, ixc0, ixc1, ixc2, ixp0, ixp1, mkTup_2, mkTup_3, mkTup_nil, mkLst_nil, okArgs_im, okArgs_nil, atI_0, atI_1, atI_2, isi_num_int, isi_num_bool, isi_tup_tuple, isi_num_tuple, wipeU, List.set_cons_zero, List.set_cons_succ, List.length_cons, List.length_nil, List.map_cons, List.map_nil, if_true, if_false, if_pos, Bool.false_eq_true, Bool.not_true, Bool.not_false, Bool.true_or, Bool.false_or, List.isEmpty_nil, List.isEmpty_cons, Option.map_none]
theorem E_step_in {r : Rule} (ok : r.Ok) {b : List Cell} (L : Lim b) (L2 : Lim (step r b)) : F_step_in [.im (rD r), .im (bD b)] = some (.im (bD (step r b))) := by
  have l1 := L.len
  obtain ⟨n1, n2⟩ := E_next_cells (r := r) L.good (by omega)
  have e1 := E_board_of (nextC_st ok L.good).1 (by omega)
  rw [rise_nextC ok L.good] at e1
  unfold F_step_in runG
  show (g_step_in [some (.im (rD r)), some (.im (bD b)), none]).bind _ = _
  simp only [g_step_in, fRet, fU, fAnd, fOr, fB, f1, f2, f3, fSeq, fNext, fIfS, fIf, fC, fSet, fDrop, fItems, itemsU_b, itemsU_ls, itemsU_tup, fTup, fLst, fCons, fConsF, fNil, fCall, fCallD, fNot, fChain, fUnp, fPar, setAllU, fVar_0, fVar_s, Option.bind_some, Option.bind_none, Option.map_some, isB_bl, eqU_im, eqU_ls, eqU_bb, neU_im, neU_ls, neU_bl, ltU_num, gtU_num, leU_num, geU_num, addU_num, subU_num, negU_num, isN_tup, isN_none, notN_tup, notN_none, ims_nil, ims_im, okAl_im, okAl_bl, okAl_nil, okRt_im, okRt_bl, okRt_nil, mut_im, mut_bl, mut_ls, mut_dc, lenU_tup, lenU_ls, tupU_tup, listU_tup, listU_ls, intU_num, ixU_tup, ixU_ls, ixU_dc, cutU_c, ixc0, ixc1, ixc2, ixp0, ixp1, mkTup_2, mkTup_3, mkTup_nil, mkLst_nil, okArgs_im, okArgs_nil, atI_0, atI_1, atI_2, isi_num_int, isi_num_bool, isi_tup_tuple, isi_num_tuple, wipeU, List.set_cons_zero, List.set_cons_succ, List.length_cons, List.length_nil, List.map_cons, List.map_nil, if_true, if_false, if_pos, Bool.false_eq_true, Bool.not_true, Bool.not_false, Bool.true_or, Bool.false_or, List.isEmpty_nil, List.isEmpty_cons, Option.map_none, E_need_small l1, E_cells_of L.good.is (by omega : b.length ≤ 100000), okArgs_1, n1, e1]
  by_cases hn : step r b = []
  · rw [hn]
    simp only [fRet, fU, fAnd, fOr, fB, f1, f2, f3, fSeq, fNext, fIfS, fIf, fC, fSet, fDrop, fItems, itemsU_b, itemsU_ls, itemsU_tup, fTup, fLst, fCons, fConsF, fNil, fCall, fCallD, fNot, fChain, fUnp, fPar, setAllU, fVar_0, fVar_s, Option.bind_some, Option.bind_none, Option.map_some, isB_bl, eqU_im, eqU_ls, eqU_bb, neU_im, neU_ls, neU_bl, ltU_num, gtU_num, leU_num, geU_num, addU_num, subU_num, negU_num, isN_tup, isN_none, notN_tup, notN_none, ims_nil, ims_im, okAl_im, okAl_bl, okAl_nil, okRt_im, okRt_bl, okRt_nil, mut_im, mut_bl, mut_ls, mut_dc, lenU_tup, lenU_ls, tupU_tup, listU_tup, listU_ls, intU_num, ixU_tup, ixU_ls, ixU_dc, cutU_c, ixc0, ixc1, ixc2, ixp0, ixp1, mkTup_2, mkTup_3, mkTup_nil, mkLst_nil, okArgs_im, okArgs_nil, atI_0, atI_1, atI_2, isi_num_int, isi_num_bool, isi_tup_tuple, isi_num_tuple, wipeU, List.set_cons_zero, List.set_cons_succ, List.length_cons, List.length_nil, List.map_cons, List.map_nil, if_true, if_false, if_pos, Bool.false_eq_true, Bool.not_true, Bool.not_false, Bool.true_or, Bool.false_or, List.isEmpty_nil, List.isEmpty_cons, Option.map_none, bD_nil, decide_true]
  · simp only [fRet, fU, fAnd, fOr, fB, f1, f2, f3, fSeq, fNext, fIfS, fIf, fC, fSet, fDrop, fItems, itemsU_b, itemsU_ls, itemsU_tup, fTup, fLst, fCons, fConsF, fNil, fCall, fCallD, fNot, fChain, fUnp, fPar, setAllU, fVar_0, fVar_s, Option.bind_some, Option.bind_none, Option.map_some, isB_bl, eqU_im, eqU_ls, eqU_bb, neU_im, neU_ls, neU_bl, ltU_num, gtU_num, leU_num, geU_num, addU_num, subU_num, negU_num, isN_tup, isN_none, notN_tup, notN_none, ims_nil, ims_im, okAl_im, okAl_bl, okAl_nil, okRt_im, okRt_bl, okRt_nil, mut_im, mut_bl, mut_ls, mut_dc, lenU_tup, lenU_ls, tupU_tup, listU_tup, listU_ls, intU_num, ixU_tup, ixU_ls, ixU_dc, cutU_c, ixc0, ixc1, ixc2, ixp0, ixp1, mkTup_2, mkTup_3, mkTup_nil, mkLst_nil, okArgs_im, okArgs_nil, atI_0, atI_1, atI_2, isi_num_int, isi_num_bool, isi_tup_tuple, isi_num_tuple, wipeU, List.set_cons_zero, List.set_cons_succ, List.length_cons, List.length_nil, List.map_cons, List.map_nil, if_true, if_false, if_pos, Bool.false_eq_true, Bool.not_true, Bool.not_false, Bool.true_or, Bool.false_or, List.isEmpty_nil, List.isEmpty_cons, Option.map_none, bD_ne hn, E_is_beyond L2 hn]
end VL

set_option Elab.async false
set_option linter.all false
set_option maxRecDepth 100000
set_option maxHeartbeats 400000
/-! VMf: the law's own step. -/
namespace VL
open PySem L2 PyProof.Rows

theorem l101 : mkLst [.num (-1), .num 0, .num 1] = some (.ls (([-1, 0, 1] : List Int).map .num)) := mkLst_ok (by simp)
theorem il101 (τ : Sh) : fItems (fLst (fCons (f1 negU (fC (.im (.num 1)))) (fCons (fC (.im (.num 0))) (fCons (fC (.im (.num 1))) fNil)))) τ = some (([-1, 0, 1] : List Int).map .num) := by
  simp only [fItems, fLst, fCons, f1, fC, fNil, negU_num, Option.bind_some, ims_im, ims_nil, Option.map_some, l101, itemsU_ls]
def gA : Sh → Option Res := (fIfS (fOr (fB (f2 neU (fVar 2) (fC (.im (.num 0))))) (fB (f2 neU (fVar 3) (fC (.im (.num 0)))))) (fApp 1 (fTup (fCons (f2 addU (f2 ixU (fVar 0) (fC (.im (.num 0)))) (fVar 2)) (fCons (f2 addU (f2 ixU (fVar 0) (fC (.im (.num 1)))) (fVar 3)) fNil)))) fNext)
def addA (p : Pl) (a : Int) (l : List Pl) (b : Int) : List Pl := if a ≠ 0 ∨ b ≠ 0 then l ++ [(p.1 + a, p.2 + b)] else l
theorem app_ev {i : Nat} {f : Sh → Option U} {τ : Sh} {ds : List D} {d : D} (h1 : fVar i τ = some (.ls ds)) (h2 : f τ = some (.im d)) (hl : ds.length ≤ 1000000) : fApp i f τ = some (.nx (τ.set i (some (.ls (ds ++ [d]))))) := by
  unfold fApp
  rw [h1, Option.bind_some, h2, Option.bind_some]
  show (if ds.length < sizeLine then _ else none) = _
  rw [if_pos (lt_size hl)]
theorem gA_ev (p : Pl) (a b : Int) (l : List Pl) (h : l.length ≤ 100) : gA [some (.im (pD p)), some (.ls (l.map pD)), some (.im (.num a)), some (.im (.num b))] = some (.nx [some (.im (pD p)), some (.ls ((addA p a l b).map pD)), some (.im (.num a)), some (.im (.num b))]) := by
  unfold addA
  by_cases q : a ≠ 0 ∨ b ≠ 0
  · rw [if_pos q]
    have e : (if (!decide (a = 0)) = true then some true else some (!decide (b = 0))) = some true := by
      by_cases h1 : a = 0
      · have h2 : b ≠ 0 := by omega
        simp [h1, h2]
      · simp [h1]
    simp only [gA, fRet, fU, fAnd, fOr, fB, f1, f2, f3, fSeq, fNext, fIfS, fIf, fC, fSet, fDrop, fItems, itemsU_b, itemsU_ls, itemsU_tup, fTup, fLst, fCons, fConsF, fNil, fCall, fCallD, fNot, fChain, fUnp, fPar, setAllU, fVar_0, fVar_s, Option.bind_some, Option.bind_none, Option.map_some, isB_bl, eqU_im, eqU_ls, eqU_bb, neU_im, neU_ls, neU_bl, ltU_num, gtU_num, leU_num, geU_num, addU_num, subU_num, negU_num, isN_tup, isN_none, notN_tup, notN_none, ims_nil, ims_im, okAl_im, okAl_bl, okAl_nil, okRt_im, okRt_bl, okRt_nil, mut_im, mut_bl, mut_ls, mut_dc, lenU_tup, lenU_ls, tupU_tup, listU_tup, listU_ls, intU_num, ixU_tup, ixU_ls, ixU_dc, cutU_c, ixc0, ixc1, ixc2, ixp0, ixp1, mkTup_2, mkTup_3, mkTup_nil, mkLst_nil, okArgs_im, okArgs_nil, atI_0, atI_1, atI_2, isi_num_int, isi_num_bool, isi_tup_tuple, isi_num_tuple, wipeU, List.set_cons_zero, List.set_cons_succ, List.length_cons, List.length_nil, List.map_cons, List.map_nil, if_true, if_false, if_pos, Bool.false_eq_true, Bool.not_true, Bool.not_false, Bool.true_or, Bool.false_or, List.isEmpty_nil, List.isEmpty_cons, Option.map_none, num_dec, e]
    rw [app_ev (ds := l.map pD) (d := pD (p.1 + a, p.2 + b)) rfl (by simp only [fRet, fU, fAnd, fOr, fB, f1, f2, f3, fSeq, fNext, fIfS, fIf, fC, fSet, fDrop, fItems, itemsU_b, itemsU_ls, itemsU_tup, fTup, fLst, fCons, fConsF, fNil, fCall, fCallD, fNot, fChain, fUnp, fPar, setAllU, fVar_0, fVar_s, Option.bind_some, Option.bind_none, Option.map_some, isB_bl, eqU_im, eqU_ls, eqU_bb, neU_im, neU_ls, neU_bl, ltU_num, gtU_num, leU_num, geU_num, addU_num, subU_num, negU_num, isN_tup, isN_none, notN_tup, notN_none, ims_nil, ims_im, okAl_im, okAl_bl, okAl_nil, okRt_im, okRt_bl, okRt_nil, mut_im, mut_bl, mut_ls, mut_dc, lenU_tup, lenU_ls, tupU_tup, listU_tup, listU_ls, intU_num, ixU_tup, ixU_ls, ixU_dc, cutU_c, ixc0, ixc1, ixc2, ixp0, ixp1, mkTup_2, mkTup_3, mkTup_nil, mkLst_nil, okArgs_im, okArgs_nil, atI_0, atI_1, atI_2, isi_num_int, isi_num_bool, isi_tup_tuple, isi_num_tuple, wipeU, List.set_cons_zero, List.set_cons_succ, List.length_cons, List.length_nil, List.map_cons, List.map_nil, if_true, if_false, if_pos, Bool.false_eq_true, Bool.not_true, Bool.not_false, Bool.true_or, Bool.false_or, List.isEmpty_nil, List.isEmpty_cons, Option.map_none]) (by rw [List.length_map]; omega), List.map_append]
    rfl
  · have h1 : a = 0 := by omega
    have h2 : b = 0 := by omega
    subst h1 h2
    rw [if_neg (by simp)]
    simp only [gA, fRet, fU, fAnd, fOr, fB, f1, f2, f3, fSeq, fNext, fIfS, fIf, fC, fSet, fDrop, fItems, itemsU_b, itemsU_ls, itemsU_tup, fTup, fLst, fCons, fConsF, fNil, fCall, fCallD, fNot, fChain, fUnp, fPar, setAllU, fVar_0, fVar_s, Option.bind_some, Option.bind_none, Option.map_some, isB_bl, eqU_im, eqU_ls, eqU_bb, neU_im, neU_ls, neU_bl, ltU_num, gtU_num, leU_num, geU_num, addU_num, subU_num, negU_num, isN_tup, isN_none, notN_tup, notN_none, ims_nil, ims_im, okAl_im, okAl_bl, okAl_nil, okRt_im, okRt_bl, okRt_nil, mut_im, mut_bl, mut_ls, mut_dc, lenU_tup, lenU_ls, tupU_tup, listU_tup, listU_ls, intU_num, ixU_tup, ixU_ls, ixU_dc, cutU_c, ixc0, ixc1, ixc2, ixp0, ixp1, mkTup_2, mkTup_3, mkTup_nil, mkLst_nil, okArgs_im, okArgs_nil, atI_0, atI_1, atI_2, isi_num_int, isi_num_bool, isi_tup_tuple, isi_num_tuple, wipeU, List.set_cons_zero, List.set_cons_succ, List.length_cons, List.length_nil, List.map_cons, List.map_nil, if_true, if_false, if_pos, Bool.false_eq_true, Bool.not_true, Bool.not_false, Bool.true_or, Bool.false_or, List.isEmpty_nil, List.isEmpty_cons, Option.map_none, decide_true]
theorem addA_len (p : Pl) (a b : Int) (l : List Pl) : (addA p a l b).length ≤ l.length + 1 := by
  unfold addA
  split
  · rw [List.length_append]; exact Nat.le_refl _
  · omega
theorem gA_loop (p : Pl) (a : Int) (l : List Pl) (o3 : Option U) (k : Nat) (h : l.length + (3 + k) ≤ 100) : ∃ o3', fFor (fItems (fLst (fCons (f1 negU (fC (.im (.num 1)))) (fCons (fC (.im (.num 0))) (fCons (fC (.im (.num 1))) fNil))))) (bName 3) gA [some (.im (pD p)), some (.ls (l.map pD)), some (.im (.num a)), o3] = some (.nx [some (.im (pD p)), some (.ls ((([-1, 0, 1] : List Int).foldl (addA p a) l).map pD)), some (.im (.num a)), o3']) ∧ (([-1, 0, 1] : List Int).foldl (addA p a) l).length + k ≤ 100 := by
  unfold fFor
  rw [il101, Option.bind_some]
  obtain ⟨τ', h1, o3', rfl, h2⟩ := loopV_ix (b := bName 3) (g := gA) NestedKey.num (fun n l τ => ∃ o3, τ = [some (.im (pD p)), some (.ls (l.map pD)), some (.im (.num a)), o3] ∧ l.length + n ≤ 100) (addA p a) ([-1, 0, 1] : List Int) (fun m _ n l τ ⟨o3, e, hl⟩ => by
    subst e
    refine ⟨_, _, rfl, gA_ev p a m l (by omega), _, rfl, ?_⟩
    have := addA_len p a m l
    omega) k l _ ⟨o3, rfl, h⟩
  exact ⟨o3', h1, h2⟩
theorem E__law_around (p : Pl) : F__law_around [.im (pD p)] = some (.ls ((nbs.map (pad p)).map pD)) := by
  unfold F__law_around runG
  have key : ∃ τ', fFor (fItems (fLst (fCons (f1 negU (fC (.im (.num 1)))) (fCons (fC (.im (.num 0))) (fCons (fC (.im (.num 1))) fNil))))) (bName 2) (fFor (fItems (fLst (fCons (f1 negU (fC (.im (.num 1)))) (fCons (fC (.im (.num 0))) (fCons (fC (.im (.num 1))) fNil))))) (bName 3) gA) [some (.im (pD p)), some (.ls (([] : List Pl).map pD)), none, none] = some (.nx τ') ∧ ∃ o2 o3, τ' = [some (.im (pD p)), some (.ls ((([-1, 0, 1] : List Int).foldl (fun l a => ([-1, 0, 1] : List Int).foldl (addA p a) l) []).map pD)), o2, o3] := by
    unfold fFor
    rw [il101, Option.bind_some]
    obtain ⟨τ', h1, o2, o3, rfl, _⟩ := loopV_ix (b := bName 2) (g := fFor (fItems (fLst (fCons (f1 negU (fC (.im (.num 1)))) (fCons (fC (.im (.num 0))) (fCons (fC (.im (.num 1))) fNil))))) (bName 3) gA) NestedKey.num (fun n l τ => ∃ o2 o3, τ = [some (.im (pD p)), some (.ls (l.map pD)), o2, o3] ∧ l.length + 3 * n ≤ 100) (fun l a => ([-1, 0, 1] : List Int).foldl (addA p a) l) ([-1, 0, 1] : List Int) (fun a _ n l τ ⟨o2, o3, e, hl⟩ => by
      subst e
      obtain ⟨o3', e1, e2⟩ := gA_loop p a l o3 (3 * n) (by omega)
      exact ⟨_, _, rfl, e1, _, o3', rfl, e2⟩) 0 [] _ ⟨none, none, rfl, by simp⟩
    exact ⟨_, h1, o2, o3, rfl⟩
  obtain ⟨τ', k1, o2, o3, rfl⟩ := key
  show (g__law_around [some (.im (pD p)), none, none, none]).bind _ = _
  have e0 : g__law_around = fSeq (fSet 1 [] (fLst fNil)) (fSeq (fFor (fItems (fLst (fCons (f1 negU (fC (.im (.num 1)))) (fCons (fC (.im (.num 0))) (fCons (fC (.im (.num 1))) fNil))))) (bName 2) (fFor (fItems (fLst (fCons (f1 negU (fC (.im (.num 1)))) (fCons (fC (.im (.num 0))) (fCons (fC (.im (.num 1))) fNil))))) (bName 3) gA)) (fRet [1] [1] (fVar 1))) := rfl
  rw [e0]
  unfold fSeq
  rw [show fSet 1 [] (fLst fNil) [some (.im (pD p)), none, none, none] = some (.nx [some (.im (pD p)), some (.ls (([] : List Pl).map pD)), none, none]) from by simp only [fRet, fU, fAnd, fOr, fB, f1, f2, f3, fSeq, fNext, fIfS, fIf, fC, fSet, fDrop, fItems, itemsU_b, itemsU_ls, itemsU_tup, fTup, fLst, fCons, fConsF, fNil, fCall, fCallD, fNot, fChain, fUnp, fPar, setAllU, fVar_0, fVar_s, Option.bind_some, Option.bind_none, Option.map_some, isB_bl, eqU_im, eqU_ls, eqU_bb, neU_im, neU_ls, neU_bl, ltU_num, gtU_num, leU_num, geU_num, addU_num, subU_num, negU_num, isN_tup, isN_none, notN_tup, notN_none, ims_nil, ims_im, okAl_im, okAl_bl, okAl_nil, okRt_im, okRt_bl, okRt_nil, mut_im, mut_bl, mut_ls, mut_dc, lenU_tup, lenU_ls, tupU_tup, listU_tup, listU_ls, intU_num, ixU_tup, ixU_ls, ixU_dc, cutU_c, ixc0, ixc1, ixc2, ixp0, ixp1, mkTup_2, mkTup_3, mkTup_nil, mkLst_nil, okArgs_im, okArgs_nil, atI_0, atI_1, atI_2, isi_num_int, isi_num_bool, isi_tup_tuple, isi_num_tuple, wipeU, List.set_cons_zero, List.set_cons_succ, List.length_cons, List.length_nil, List.map_cons, List.map_nil, if_true, if_false, if_pos, Bool.false_eq_true, Bool.not_true, Bool.not_false, Bool.true_or, Bool.false_or, List.isEmpty_nil, List.isEmpty_cons, Option.map_none], Option.bind_some]
  dsimp only
  rw [k1, Option.bind_some]
  have e1 : (([-1, 0, 1] : List Int).foldl (fun l a => ([-1, 0, 1] : List Int).foldl (addA p a) l) []) = nbs.map (pad p) := by simp [addA, nbs, pad]
  rw [e1]
  rfl

/-! ### the dict of places -/
def dB (ps : List Pl) : List (D × W) := ps.map fun p => (pD p, W.b true)
def insP (ps : List Pl) (p : Pl) : List Pl := if p ∈ ps then ps else ps ++ [p]
theorem dB_keys (ps : List Pl) : (dB ps).map (·.1) = ps.map pD := by unfold dB; rw [List.map_map]; rfl
theorem mem_pD {p : Pl} {ps : List Pl} : pD p ∈ ps.map pD ↔ p ∈ ps := by
  rw [List.mem_map]
  exact ⟨fun ⟨q, hq, e⟩ => pD_inj e ▸ hq, fun h => ⟨p, h, rfl⟩⟩
theorem sto_dB (ps : List Pl) (p : Pl) : stoD (dB ps) (pD p) (.b true) = dB (insP ps p) := by
  unfold insP
  by_cases h : p ∈ ps
  · rw [if_pos h]
    unfold stoD
    have hs : (lookD (dB ps) (pD p)).isSome = true := by
      unfold lookD
      rw [Option.isSome_map, List.find?_isSome]
      exact ⟨(pD p, W.b true), List.mem_map.mpr ⟨p, h, rfl⟩, decide_eq_true rfl⟩
    rw [if_pos hs]
    unfold dB
    rw [List.map_map]
    refine List.map_congr_left fun q _ => ?_
    show (if pD q = pD p then (pD q, W.b true) else (pD q, W.b true)) = _
    split <;> rfl
  · rw [if_neg h, sto_new (by rw [dB_keys, mem_pD]; exact h)]
    unfold dB
    rw [List.map_append]
    rfl
theorem mem_insP {ps : List Pl} {p q : Pl} : q ∈ insP ps p ↔ q = p ∨ q ∈ ps := by
  unfold insP
  by_cases h : p ∈ ps
  · rw [if_pos h]
    constructor
    · exact Or.inr
    · rintro (rfl | z)
      · exact h
      · exact z
  · rw [if_neg h, List.mem_append, List.mem_singleton]
    exact Or.comm
theorem insP_nodup {ps : List Pl} {p : Pl} (nd : ps.Nodup) : (insP ps p).Nodup := by
  unfold insP
  by_cases h : p ∈ ps
  · rw [if_pos h]; exact nd
  · rw [if_neg h, List.nodup_append]
    refine ⟨nd, by simp, fun a ha b hb e => ?_⟩
    rw [List.mem_singleton] at hb
    subst hb e
    exact h ha
theorem insP_len (ps : List Pl) (p : Pl) : (insP ps p).length ≤ ps.length + 1 := by
  unfold insP
  split
  · omega
  · rw [List.length_append]; exact Nat.le_refl _
theorem ins_all : ∀ (qs ps : List Pl), (ps.Nodup → (qs.foldl insP ps).Nodup) ∧ ∀ p, p ∈ qs.foldl insP ps ↔ p ∈ qs ∨ p ∈ ps
  | [], ps => ⟨id, fun p => by simp⟩
  | q :: qs, ps => by
    obtain ⟨h1, h2⟩ := ins_all qs (insP ps q)
    refine ⟨fun nd => h1 (insP_nodup nd), fun p => ?_⟩
    rw [List.foldl_cons, h2 p, mem_insP, List.mem_cons]
    constructor
    · rintro (a | a | a)
      · exact .inl (.inr a)
      · exact .inl (.inl a)
      · exact .inr a
    · rintro ((a | a) | a)
      · exact .inr (.inl a)
      · exact .inl a
      · exact .inr (.inr a)
theorem stoB_ev {i : Nat} {fk : Sh → Option U} {τ : Sh} {ps : List Pl} {p : Pl} (h2 : fVar i τ = some (.dc (dB ps))) (h3 : fk τ = some (.im (pD p))) (hl : ps.length ≤ 1000000) : fSto i (fC (.bl true)) fk τ = some (.nx (τ.set i (some (.dc (dB (insP ps p)))))) := by
  unfold fSto
  rw [show fC (.bl true) τ = some (.bl true) from rfl, Option.bind_some, show wOf (.bl true) = some (.b true) from rfl, Option.bind_some, h2, Option.bind_some, h3, Option.bind_some]
  show (if (dB ps).length < sizeLine then some (Res.nx (τ.set i (some (.dc (stoD (dB ps) (pD p) (.b true)))))) else none) = _
  rw [if_pos (lt_size (by unfold dB; rw [List.length_map]; exact hl)), sto_dB]
abbrev fr11 (r : Rule) (b : List Cell) (o3 o4 o5 o6 o7 o8 o9 : Option U) : Sh := [some (.im (rD r)), some (.im (bD b)), some (.dc (dK b)), o3, o4, o5, o6, o7, o8, o9, none]
def insC (ps : List Pl) (c : Cell) : List Pl := (nbs.map (pad (pl c))).foldl insP (insP ps (pl c))
def gP : Sh → Option Res := (fSeq (fSto 3 (fC (.bl true)) (f2 cutU (fVar 5) (fC (.im (.num 2)))))
    (fFor (fItems (fCallD F__law_around (fCons (f2 cutU (fVar 5) (fC (.im (.num 2)))) fNil))) (bName 6) (fSto 3 (fC (.bl true)) (fVar 6))))
theorem gP_ev (C : Nat) (hC : C ≤ 1000000) (r : Rule) (b : List Cell) (c : Cell) (ps : List Pl) (o4 o6 o7 o8 o9 : Option U) (k : Nat) (h : ps.length + (9 + k) ≤ C) : ∃ o6', gP (fr11 r b (some (.dc (dB ps))) o4 (some (.im (cD c))) o6 o7 o8 o9) = some (.nx (fr11 r b (some (.dc (dB (insC ps c)))) o4 (some (.im (cD c))) o6' o7 o8 o9)) ∧ (insC ps c).length + k ≤ C := by
  have hl := insP_len ps (pl c)
  obtain ⟨τ', h1, o6', rfl, h2⟩ := loopV_ix (b := bName 6) (g := fSto 3 (fC (.bl true)) (fVar 6)) pD (fun n ps τ => ∃ o6, τ = fr11 r b (some (.dc (dB ps))) o4 (some (.im (cD c))) o6 o7 o8 o9 ∧ ps.length + n ≤ C) insP (nbs.map (pad (pl c))) (fun p _ n ps τ ⟨o6, e, hl⟩ => by
    subst e
    refine ⟨_, _, rfl, stoB_ev (ps := ps) (p := p) rfl rfl (by omega), _, rfl, ?_⟩
    have := insP_len ps p
    omega) k (insP ps (pl c)) (fr11 r b (some (.dc (dB (insP ps (pl c))))) o4 (some (.im (cD c))) o6 o7 o8 o9) ⟨o6, rfl, by rw [List.length_map]; show _ + (8 + k) ≤ C; omega⟩
  refine ⟨o6', ?_, h2⟩
  unfold gP fSeq
  rw [stoB_ev (ps := ps) (p := pl c) rfl (by simp only [fRet, fU, fAnd, fOr, fB, f1, f2, f3, fSeq, fNext, fIfS, fIf, fC, fSet, fDrop, fItems, itemsU_b, itemsU_ls, itemsU_tup, fTup, fLst, fCons, fConsF, fNil, fCall, fCallD, fNot, fChain, fUnp, fPar, setAllU, fVar_0, fVar_s, Option.bind_some, Option.bind_none, Option.map_some, isB_bl, eqU_im, eqU_ls, eqU_bb, neU_im, neU_ls, neU_bl, ltU_num, gtU_num, leU_num, geU_num, addU_num, subU_num, negU_num, isN_tup, isN_none, notN_tup, notN_none, ims_nil, ims_im, okAl_im, okAl_bl, okAl_nil, okRt_im, okRt_bl, okRt_nil, mut_im, mut_bl, mut_ls, mut_dc, lenU_tup, lenU_ls, tupU_tup, listU_tup, listU_ls, intU_num, ixU_tup, ixU_ls, ixU_dc, cutU_c, ixc0, ixc1, ixc2, ixp0, ixp1, mkTup_2, mkTup_3, mkTup_nil, mkLst_nil, okArgs_im, okArgs_nil, atI_0, atI_1, atI_2, isi_num_int, isi_num_bool, isi_tup_tuple, isi_num_tuple, wipeU, List.set_cons_zero, List.set_cons_succ, List.length_cons, List.length_nil, List.map_cons, List.map_nil, if_true, if_false, if_pos, Bool.false_eq_true, Bool.not_true, Bool.not_false, Bool.true_or, Bool.false_or, List.isEmpty_nil, List.isEmpty_cons, Option.map_none]) (by omega), Option.bind_some]
  dsimp only
  unfold fFor
  have e1 : fItems (fCallD F__law_around (fCons (f2 cutU (fVar 5) (fC (.im (.num 2)))) fNil)) (fr11 r b (some (.dc (dB (insP ps (pl c))))) o4 (some (.im (cD c))) o6 o7 o8 o9) = some ((nbs.map (pad (pl c))).map pD) := by
    simp only [fRet, fU, fAnd, fOr, fB, f1, f2, f3, fSeq, fNext, fIfS, fIf, fC, fSet, fDrop, fItems, itemsU_b, itemsU_ls, itemsU_tup, fTup, fLst, fCons, fConsF, fNil, fCall, fCallD, fNot, fChain, fUnp, fPar, setAllU, fVar_0, fVar_s, Option.bind_some, Option.bind_none, Option.map_some, isB_bl, eqU_im, eqU_ls, eqU_bb, neU_im, neU_ls, neU_bl, ltU_num, gtU_num, leU_num, geU_num, addU_num, subU_num, negU_num, isN_tup, isN_none, notN_tup, notN_none, ims_nil, ims_im, okAl_im, okAl_bl, okAl_nil, okRt_im, okRt_bl, okRt_nil, mut_im, mut_bl, mut_ls, mut_dc, lenU_tup, lenU_ls, tupU_tup, listU_tup, listU_ls, intU_num, ixU_tup, ixU_ls, ixU_dc, cutU_c, ixc0, ixc1, ixc2, ixp0, ixp1, mkTup_2, mkTup_3, mkTup_nil, mkLst_nil, okArgs_im, okArgs_nil, atI_0, atI_1, atI_2, isi_num_int, isi_num_bool, isi_tup_tuple, isi_num_tuple, wipeU, List.set_cons_zero, List.set_cons_succ, List.length_cons, List.length_nil, List.map_cons, List.map_nil, if_true, if_false, if_pos, Bool.false_eq_true, Bool.not_true, Bool.not_false, Bool.true_or, Bool.false_or, List.isEmpty_nil, List.isEmpty_cons, Option.map_none, E__law_around]
  have e2 : List.set (fr11 r b (some (.dc (dB ps))) o4 (some (.im (cD c))) o6 o7 o8 o9) 3 (some (.dc (dB (insP ps (pl c))))) = fr11 r b (some (.dc (dB (insP ps (pl c))))) o4 (some (.im (cD c))) o6 o7 o8 o9 := rfl
  rw [e2, e1, Option.bind_some]
  exact h1

/-- the cell that a place gets, in the law's words -/
def gS : Sh → Option Res := (fSeq (fSet 7 [] (fCall lenU (fCons (fLc (fItems (fCallD F__law_around (fCons (fVar 6) fNil))) (bName 10) (fB (f2 eqU (f3 getU (fVar 2) (fVar 10) (fC (.im (.num 0)))) (fC (.im (.num 1))))) (fC (.im (.num 1))) [10]) fNil)))
    (fSeq (fSet 8 [] (f3 getU (fVar 2) (fVar 6) (fC (.im (.num 0)))))
    (fSeq (fIfS (fB (f2 eqU (fVar 8) (fC (.im (.num 0))))) (fSet 9 ([] ++ []) (fIf (fB (f2 inU (fVar 7) (f2 ixU (fVar 0) (fC (.im (.num 0)))))) (fC (.im (.num 1))) (fC (.im (.num 0))))) (fIfS (fAnd (fB (f2 eqU (fVar 8) (fC (.im (.num 1))))) (fB (f2 inU (fVar 7) (f2 ixU (fVar 0) (fC (.im (.num 1))))))) (fSet 9 [] (fC (.im (.num 1)))) (fSet 9 ([] ++ []) (fIf (fB (f2 ltU (f2 addU (fVar 8) (fC (.im (.num 1)))) (f2 ixU (fVar 0) (fC (.im (.num 2)))))) (f2 addU (fVar 8) (fC (.im (.num 1)))) (fC (.im (.num 0)))))))
    (fSet 4 ([] ++ [4]) (fIf (fB (f2 gtU (fVar 9) (fC (.im (.num 0))))) (f2 addU (fVar 4) (fLst (fCons (f2 addU (fVar 6) (fTup (fCons (fVar 9) fNil))) fNil))) (fVar 4))))))
theorem ixr0 (r : Rule) : ixU (.im (rD r)) (.im (.num 0)) = some (.im (nD r.bs)) := (ixU_tup _ _).trans (by rw [atI_0]; rfl)
theorem ixr1 (r : Rule) : ixU (.im (rD r)) (.im (.num 1)) = some (.im (nD r.ss)) := (ixU_tup _ _).trans (by rw [atI_1]; rfl)
theorem ixr2 (r : Rule) : ixU (.im (rD r)) (.im (.num 2)) = some (.im (.num r.n)) := (ixU_tup _ _).trans (by rw [atI_2]; rfl)
theorem near_lc (r : Rule) (b : List Cell) (o3 o4 o5 o7 o8 o9 : Option U) (p : Pl) : fCall lenU (fCons (fLc (fItems (fCallD F__law_around (fCons (fVar 6) fNil))) (bName 10) (fB (f2 eqU (f3 getU (fVar 2) (fVar 10) (fC (.im (.num 0)))) (fC (.im (.num 1))))) (fC (.im (.num 1))) [10]) fNil) (fr11 r b o3 o4 o5 (some (.im (pD p))) o7 o8 o9) = some (.im (.num (near (st b) p : Nat))) := by
  have h := lcGo_map (b := bName 10) (ft := fB (f2 eqU (f3 getU (fVar 2) (fVar 10) (fC (.im (.num 0)))) (fC (.im (.num 1))))) (fe := fC (.im (.num 1))) (τ := fr11 r b o3 o4 o5 (some (.im (pD p))) o7 o8 o9) pD (fun q => decide (st b q = 1)) (fun _ => .num 1) (nbs.map (pad p)) (fun q _ => ⟨_, bName_e 10 _ _, by simp only [fRet, fU, fAnd, fOr, fB, f1, f2, f3, fSeq, fNext, fIfS, fIf, fC, fSet, fDrop, fItems, itemsU_b, itemsU_ls, itemsU_tup, fTup, fLst, fCons, fConsF, fNil, fCall, fCallD, fNot, fChain, fUnp, fPar, setAllU, fVar_0, fVar_s, Option.bind_some, Option.bind_none, Option.map_some, isB_bl, eqU_im, eqU_ls, eqU_bb, neU_im, neU_ls, neU_bl, ltU_num, gtU_num, leU_num, geU_num, addU_num, subU_num, negU_num, isN_tup, isN_none, notN_tup, notN_none, ims_nil, ims_im, okAl_im, okAl_bl, okAl_nil, okRt_im, okRt_bl, okRt_nil, mut_im, mut_bl, mut_ls, mut_dc, lenU_tup, lenU_ls, tupU_tup, listU_tup, listU_ls, intU_num, ixU_tup, ixU_ls, ixU_dc, cutU_c, ixc0, ixc1, ixc2, ixp0, ixp1, mkTup_2, mkTup_3, mkTup_nil, mkLst_nil, okArgs_im, okArgs_nil, atI_0, atI_1, atI_2, isi_num_int, isi_num_bool, isi_tup_tuple, isi_num_tuple, wipeU, List.set_cons_zero, List.set_cons_succ, List.length_cons, List.length_nil, List.map_cons, List.map_nil, if_true, if_false, if_pos, Bool.false_eq_true, Bool.not_true, Bool.not_false, Bool.true_or, Bool.false_or, List.isEmpty_nil, List.isEmpty_cons, Option.map_none, get_dK, num_dec], fun _ => rfl⟩)
  have hs : ((nbs.map (pad p)).map pD).length < sizeLine := lt_size (by rw [List.length_map, List.length_map]; decide)
  simp only [fRet, fU, fAnd, fOr, fB, f1, f2, f3, fSeq, fNext, fIfS, fIf, fC, fSet, fDrop, fItems, itemsU_b, itemsU_ls, itemsU_tup, fTup, fLst, fCons, fConsF, fNil, fCall, fCallD, fNot, fChain, fUnp, fPar, setAllU, fVar_0, fVar_s, Option.bind_some, Option.bind_none, Option.map_some, isB_bl, eqU_im, eqU_ls, eqU_bb, neU_im, neU_ls, neU_bl, ltU_num, gtU_num, leU_num, geU_num, addU_num, subU_num, negU_num, isN_tup, isN_none, notN_tup, notN_none, ims_nil, ims_im, okAl_im, okAl_bl, okAl_nil, okRt_im, okRt_bl, okRt_nil, mut_im, mut_bl, mut_ls, mut_dc, lenU_tup, lenU_ls, tupU_tup, listU_tup, listU_ls, intU_num, ixU_tup, ixU_ls, ixU_dc, cutU_c, ixc0, ixc1, ixc2, ixp0, ixp1, mkTup_2, mkTup_3, mkTup_nil, mkLst_nil, okArgs_im, okArgs_nil, atI_0, atI_1, atI_2, isi_num_int, isi_num_bool, isi_tup_tuple, isi_num_tuple, wipeU, List.set_cons_zero, List.set_cons_succ, List.length_cons, List.length_nil, List.map_cons, List.map_nil, if_true, if_false, if_pos, Bool.false_eq_true, Bool.not_true, Bool.not_false, Bool.true_or, Bool.false_or, List.isEmpty_nil, List.isEmpty_cons, Option.map_none, E__law_around, fLc, if_pos hs]
  rw [h]
  simp only [fRet, fU, fAnd, fOr, fB, f1, f2, f3, fSeq, fNext, fIfS, fIf, fC, fSet, fDrop, fItems, itemsU_b, itemsU_ls, itemsU_tup, fTup, fLst, fCons, fConsF, fNil, fCall, fCallD, fNot, fChain, fUnp, fPar, setAllU, fVar_0, fVar_s, Option.bind_some, Option.bind_none, Option.map_some, isB_bl, eqU_im, eqU_ls, eqU_bb, neU_im, neU_ls, neU_bl, ltU_num, gtU_num, leU_num, geU_num, addU_num, subU_num, negU_num, isN_tup, isN_none, notN_tup, notN_none, ims_nil, ims_im, okAl_im, okAl_bl, okAl_nil, okRt_im, okRt_bl, okRt_nil, mut_im, mut_bl, mut_ls, mut_dc, lenU_tup, lenU_ls, tupU_tup, listU_tup, listU_ls, intU_num, ixU_tup, ixU_ls, ixU_dc, cutU_c, ixc0, ixc1, ixc2, ixp0, ixp1, mkTup_2, mkTup_3, mkTup_nil, mkLst_nil, okArgs_im, okArgs_nil, atI_0, atI_1, atI_2, isi_num_int, isi_num_bool, isi_tup_tuple, isi_num_tuple, wipeU, List.set_cons_zero, List.set_cons_succ, List.length_cons, List.length_nil, List.map_cons, List.map_nil, if_true, if_false, if_pos, Bool.false_eq_true, Bool.not_true, Bool.not_false, Bool.true_or, Bool.false_or, List.isEmpty_nil, List.isEmpty_cons, Option.map_none]
  congr 4
  rw [List.length_map, ← List.countP_eq_length_filter, List.countP_map]
  rfl
theorem st_add1 (p : Pl) (s : Int) : addU (.im (pD p)) (.im (.tup [.num s])) = some (.im (cD (p.1, p.2, s))) := rfl
theorem mkTup_1 (s : Int) : mkTup [.num s] = some (.im (.tup [.num s])) := mkTup_ok (fun d hd => by simp only [List.mem_singleton] at hd; subst hd; simp [NestedKey.depth]) (by simp)
def addC (r : Rule) (b : List Cell) (l : List Cell) (p : Pl) : List Cell := match stepC r (st b) p with
  | some c => l ++ [c]
  | none => l
theorem new_ev (r : Rule) (b : List Cell) (p : Pl) (o3 o4 o5 o9 : Option U) : (fIfS (fB (f2 eqU (fVar 8) (fC (.im (.num 0))))) (fSet 9 ([] ++ []) (fIf (fB (f2 inU (fVar 7) (f2 ixU (fVar 0) (fC (.im (.num 0)))))) (fC (.im (.num 1))) (fC (.im (.num 0))))) (fIfS (fAnd (fB (f2 eqU (fVar 8) (fC (.im (.num 1))))) (fB (f2 inU (fVar 7) (f2 ixU (fVar 0) (fC (.im (.num 1))))))) (fSet 9 [] (fC (.im (.num 1)))) (fSet 9 ([] ++ []) (fIf (fB (f2 ltU (f2 addU (fVar 8) (fC (.im (.num 1)))) (f2 ixU (fVar 0) (fC (.im (.num 2)))))) (f2 addU (fVar 8) (fC (.im (.num 1)))) (fC (.im (.num 0))))))) (fr11 r b o3 o4 o5 (some (.im (pD p))) (some (.im (.num (near (st b) p : Nat)))) (some (.im (.num (st b p)))) o9) =
    some (.nx (fr11 r b o3 o4 o5 (some (.im (pD p))) (some (.im (.num (near (st b) p : Nat)))) (some (.im (.num (st b p)))) (some (.im (.num (nxt r (st b) p)))))) := by
  unfold nxt
  simp only [fRet, fU, fAnd, fOr, fB, f1, f2, f3, fSeq, fNext, fIfS, fIf, fC, fSet, fDrop, fItems, itemsU_b, itemsU_ls, itemsU_tup, fTup, fLst, fCons, fConsF, fNil, fCall, fCallD, fNot, fChain, fUnp, fPar, setAllU, fVar_0, fVar_s, Option.bind_some, Option.bind_none, Option.map_some, isB_bl, eqU_im, eqU_ls, eqU_bb, neU_im, neU_ls, neU_bl, ltU_num, gtU_num, leU_num, geU_num, addU_num, subU_num, negU_num, isN_tup, isN_none, notN_tup, notN_none, ims_nil, ims_im, okAl_im, okAl_bl, okAl_nil, okRt_im, okRt_bl, okRt_nil, mut_im, mut_bl, mut_ls, mut_dc, lenU_tup, lenU_ls, tupU_tup, listU_tup, listU_ls, intU_num, ixU_tup, ixU_ls, ixU_dc, cutU_c, ixc0, ixc1, ixc2, ixp0, ixp1, mkTup_2, mkTup_3, mkTup_nil, mkLst_nil, okArgs_im, okArgs_nil, atI_0, atI_1, atI_2, isi_num_int, isi_num_bool, isi_tup_tuple, isi_num_tuple, wipeU, List.set_cons_zero, List.set_cons_succ, List.length_cons, List.length_nil, List.map_cons, List.map_nil, if_true, if_false, if_pos, Bool.false_eq_true, Bool.not_true, Bool.not_false, Bool.true_or, Bool.false_or, List.isEmpty_nil, List.isEmpty_cons, Option.map_none, num_dec, ixr0, ixr1, ixr2, in_nums]
  by_cases h0 : st b p = 0
  · rw [if_pos h0]
    simp only [decide_eq_true h0, fRet, fU, fAnd, fOr, fB, f1, f2, f3, fSeq, fNext, fIfS, fIf, fC, fSet, fDrop, fItems, itemsU_b, itemsU_ls, itemsU_tup, fTup, fLst, fCons, fConsF, fNil, fCall, fCallD, fNot, fChain, fUnp, fPar, setAllU, fVar_0, fVar_s, Option.bind_some, Option.bind_none, Option.map_some, isB_bl, eqU_im, eqU_ls, eqU_bb, neU_im, neU_ls, neU_bl, ltU_num, gtU_num, leU_num, geU_num, addU_num, subU_num, negU_num, isN_tup, isN_none, notN_tup, notN_none, ims_nil, ims_im, okAl_im, okAl_bl, okAl_nil, okRt_im, okRt_bl, okRt_nil, mut_im, mut_bl, mut_ls, mut_dc, lenU_tup, lenU_ls, tupU_tup, listU_tup, listU_ls, intU_num, ixU_tup, ixU_ls, ixU_dc, cutU_c, ixc0, ixc1, ixc2, ixp0, ixp1, mkTup_2, mkTup_3, mkTup_nil, mkLst_nil, okArgs_im, okArgs_nil, atI_0, atI_1, atI_2, isi_num_int, isi_num_bool, isi_tup_tuple, isi_num_tuple, wipeU, List.set_cons_zero, List.set_cons_succ, List.length_cons, List.length_nil, List.map_cons, List.map_nil, if_true, if_false, if_pos, Bool.false_eq_true, Bool.not_true, Bool.not_false, Bool.true_or, Bool.false_or, List.isEmpty_nil, List.isEmpty_cons, Option.map_none]
    by_cases h1 : (near (st b) p : Int) ∈ r.bs
    · rw [if_pos h1, decide_eq_true h1]
      simp only [fRet, fU, fAnd, fOr, fB, f1, f2, f3, fSeq, fNext, fIfS, fIf, fC, fSet, fDrop, fItems, itemsU_b, itemsU_ls, itemsU_tup, fTup, fLst, fCons, fConsF, fNil, fCall, fCallD, fNot, fChain, fUnp, fPar, setAllU, fVar_0, fVar_s, Option.bind_some, Option.bind_none, Option.map_some, isB_bl, eqU_im, eqU_ls, eqU_bb, neU_im, neU_ls, neU_bl, ltU_num, gtU_num, leU_num, geU_num, addU_num, subU_num, negU_num, isN_tup, isN_none, notN_tup, notN_none, ims_nil, ims_im, okAl_im, okAl_bl, okAl_nil, okRt_im, okRt_bl, okRt_nil, mut_im, mut_bl, mut_ls, mut_dc, lenU_tup, lenU_ls, tupU_tup, listU_tup, listU_ls, intU_num, ixU_tup, ixU_ls, ixU_dc, cutU_c, ixc0, ixc1, ixc2, ixp0, ixp1, mkTup_2, mkTup_3, mkTup_nil, mkLst_nil, okArgs_im, okArgs_nil, atI_0, atI_1, atI_2, isi_num_int, isi_num_bool, isi_tup_tuple, isi_num_tuple, wipeU, List.set_cons_zero, List.set_cons_succ, List.length_cons, List.length_nil, List.map_cons, List.map_nil, if_true, if_false, if_pos, Bool.false_eq_true, Bool.not_true, Bool.not_false, Bool.true_or, Bool.false_or, List.isEmpty_nil, List.isEmpty_cons, Option.map_none]
    · rw [if_neg h1, decide_eq_false h1]
      simp only [fRet, fU, fAnd, fOr, fB, f1, f2, f3, fSeq, fNext, fIfS, fIf, fC, fSet, fDrop, fItems, itemsU_b, itemsU_ls, itemsU_tup, fTup, fLst, fCons, fConsF, fNil, fCall, fCallD, fNot, fChain, fUnp, fPar, setAllU, fVar_0, fVar_s, Option.bind_some, Option.bind_none, Option.map_some, isB_bl, eqU_im, eqU_ls, eqU_bb, neU_im, neU_ls, neU_bl, ltU_num, gtU_num, leU_num, geU_num, addU_num, subU_num, negU_num, isN_tup, isN_none, notN_tup, notN_none, ims_nil, ims_im, okAl_im, okAl_bl, okAl_nil, okRt_im, okRt_bl, okRt_nil, mut_im, mut_bl, mut_ls, mut_dc, lenU_tup, lenU_ls, tupU_tup, listU_tup, listU_ls, intU_num, ixU_tup, ixU_ls, ixU_dc, cutU_c, ixc0, ixc1, ixc2, ixp0, ixp1, mkTup_2, mkTup_3, mkTup_nil, mkLst_nil, okArgs_im, okArgs_nil, atI_0, atI_1, atI_2, isi_num_int, isi_num_bool, isi_tup_tuple, isi_num_tuple, wipeU, List.set_cons_zero, List.set_cons_succ, List.length_cons, List.length_nil, List.map_cons, List.map_nil, if_true, if_false, if_pos, Bool.false_eq_true, Bool.not_true, Bool.not_false, Bool.true_or, Bool.false_or, List.isEmpty_nil, List.isEmpty_cons, Option.map_none]
  · rw [if_neg h0]
    simp only [decide_eq_false h0, fRet, fU, fAnd, fOr, fB, f1, f2, f3, fSeq, fNext, fIfS, fIf, fC, fSet, fDrop, fItems, itemsU_b, itemsU_ls, itemsU_tup, fTup, fLst, fCons, fConsF, fNil, fCall, fCallD, fNot, fChain, fUnp, fPar, setAllU, fVar_0, fVar_s, Option.bind_some, Option.bind_none, Option.map_some, isB_bl, eqU_im, eqU_ls, eqU_bb, neU_im, neU_ls, neU_bl, ltU_num, gtU_num, leU_num, geU_num, addU_num, subU_num, negU_num, isN_tup, isN_none, notN_tup, notN_none, ims_nil, ims_im, okAl_im, okAl_bl, okAl_nil, okRt_im, okRt_bl, okRt_nil, mut_im, mut_bl, mut_ls, mut_dc, lenU_tup, lenU_ls, tupU_tup, listU_tup, listU_ls, intU_num, ixU_tup, ixU_ls, ixU_dc, cutU_c, ixc0, ixc1, ixc2, ixp0, ixp1, mkTup_2, mkTup_3, mkTup_nil, mkLst_nil, okArgs_im, okArgs_nil, atI_0, atI_1, atI_2, isi_num_int, isi_num_bool, isi_tup_tuple, isi_num_tuple, wipeU, List.set_cons_zero, List.set_cons_succ, List.length_cons, List.length_nil, List.map_cons, List.map_nil, if_true, if_false, if_pos, Bool.false_eq_true, Bool.not_true, Bool.not_false, Bool.true_or, Bool.false_or, List.isEmpty_nil, List.isEmpty_cons, Option.map_none]
    by_cases q1 : st b p = 1 ∧ (near (st b) p : Int) ∈ r.ss
    · rw [if_pos q1]
      simp only [decide_eq_true q1.1, decide_eq_true q1.2, fRet, fU, fAnd, fOr, fB, f1, f2, f3, fSeq, fNext, fIfS, fIf, fC, fSet, fDrop, fItems, itemsU_b, itemsU_ls, itemsU_tup, fTup, fLst, fCons, fConsF, fNil, fCall, fCallD, fNot, fChain, fUnp, fPar, setAllU, fVar_0, fVar_s, Option.bind_some, Option.bind_none, Option.map_some, isB_bl, eqU_im, eqU_ls, eqU_bb, neU_im, neU_ls, neU_bl, ltU_num, gtU_num, leU_num, geU_num, addU_num, subU_num, negU_num, isN_tup, isN_none, notN_tup, notN_none, ims_nil, ims_im, okAl_im, okAl_bl, okAl_nil, okRt_im, okRt_bl, okRt_nil, mut_im, mut_bl, mut_ls, mut_dc, lenU_tup, lenU_ls, tupU_tup, listU_tup, listU_ls, intU_num, ixU_tup, ixU_ls, ixU_dc, cutU_c, ixc0, ixc1, ixc2, ixp0, ixp1, mkTup_2, mkTup_3, mkTup_nil, mkLst_nil, okArgs_im, okArgs_nil, atI_0, atI_1, atI_2, isi_num_int, isi_num_bool, isi_tup_tuple, isi_num_tuple, wipeU, List.set_cons_zero, List.set_cons_succ, List.length_cons, List.length_nil, List.map_cons, List.map_nil, if_true, if_false, if_pos, Bool.false_eq_true, Bool.not_true, Bool.not_false, Bool.true_or, Bool.false_or, List.isEmpty_nil, List.isEmpty_cons, Option.map_none]
    · have e1 : (if decide (st b p = 1) = true then some (decide ((near (st b) p : Int) ∈ r.ss)) else some false) = some false := by
        by_cases a : st b p = 1
        · have a2 : ¬ (near (st b) p : Int) ∈ r.ss := fun z => q1 ⟨a, z⟩
          rw [decide_eq_true a, if_pos rfl, decide_eq_false a2]
        · rw [decide_eq_false a, if_neg Bool.false_ne_true]
      rw [e1, if_neg q1]
      simp only [fRet, fU, fAnd, fOr, fB, f1, f2, f3, fSeq, fNext, fIfS, fIf, fC, fSet, fDrop, fItems, itemsU_b, itemsU_ls, itemsU_tup, fTup, fLst, fCons, fConsF, fNil, fCall, fCallD, fNot, fChain, fUnp, fPar, setAllU, fVar_0, fVar_s, Option.bind_some, Option.bind_none, Option.map_some, isB_bl, eqU_im, eqU_ls, eqU_bb, neU_im, neU_ls, neU_bl, ltU_num, gtU_num, leU_num, geU_num, addU_num, subU_num, negU_num, isN_tup, isN_none, notN_tup, notN_none, ims_nil, ims_im, okAl_im, okAl_bl, okAl_nil, okRt_im, okRt_bl, okRt_nil, mut_im, mut_bl, mut_ls, mut_dc, lenU_tup, lenU_ls, tupU_tup, listU_tup, listU_ls, intU_num, ixU_tup, ixU_ls, ixU_dc, cutU_c, ixc0, ixc1, ixc2, ixp0, ixp1, mkTup_2, mkTup_3, mkTup_nil, mkLst_nil, okArgs_im, okArgs_nil, atI_0, atI_1, atI_2, isi_num_int, isi_num_bool, isi_tup_tuple, isi_num_tuple, wipeU, List.set_cons_zero, List.set_cons_succ, List.length_cons, List.length_nil, List.map_cons, List.map_nil, if_true, if_false, if_pos, Bool.false_eq_true, Bool.not_true, Bool.not_false, Bool.true_or, Bool.false_or, List.isEmpty_nil, List.isEmpty_cons, Option.map_none]
      by_cases q2 : st b p + 1 < r.n
      · rw [if_pos q2, decide_eq_true q2]
        simp only [fRet, fU, fAnd, fOr, fB, f1, f2, f3, fSeq, fNext, fIfS, fIf, fC, fSet, fDrop, fItems, itemsU_b, itemsU_ls, itemsU_tup, fTup, fLst, fCons, fConsF, fNil, fCall, fCallD, fNot, fChain, fUnp, fPar, setAllU, fVar_0, fVar_s, Option.bind_some, Option.bind_none, Option.map_some, isB_bl, eqU_im, eqU_ls, eqU_bb, neU_im, neU_ls, neU_bl, ltU_num, gtU_num, leU_num, geU_num, addU_num, subU_num, negU_num, isN_tup, isN_none, notN_tup, notN_none, ims_nil, ims_im, okAl_im, okAl_bl, okAl_nil, okRt_im, okRt_bl, okRt_nil, mut_im, mut_bl, mut_ls, mut_dc, lenU_tup, lenU_ls, tupU_tup, listU_tup, listU_ls, intU_num, ixU_tup, ixU_ls, ixU_dc, cutU_c, ixc0, ixc1, ixc2, ixp0, ixp1, mkTup_2, mkTup_3, mkTup_nil, mkLst_nil, okArgs_im, okArgs_nil, atI_0, atI_1, atI_2, isi_num_int, isi_num_bool, isi_tup_tuple, isi_num_tuple, wipeU, List.set_cons_zero, List.set_cons_succ, List.length_cons, List.length_nil, List.map_cons, List.map_nil, if_true, if_false, if_pos, Bool.false_eq_true, Bool.not_true, Bool.not_false, Bool.true_or, Bool.false_or, List.isEmpty_nil, List.isEmpty_cons, Option.map_none]
      · rw [if_neg q2, decide_eq_false q2]
        simp only [fRet, fU, fAnd, fOr, fB, f1, f2, f3, fSeq, fNext, fIfS, fIf, fC, fSet, fDrop, fItems, itemsU_b, itemsU_ls, itemsU_tup, fTup, fLst, fCons, fConsF, fNil, fCall, fCallD, fNot, fChain, fUnp, fPar, setAllU, fVar_0, fVar_s, Option.bind_some, Option.bind_none, Option.map_some, isB_bl, eqU_im, eqU_ls, eqU_bb, neU_im, neU_ls, neU_bl, ltU_num, gtU_num, leU_num, geU_num, addU_num, subU_num, negU_num, isN_tup, isN_none, notN_tup, notN_none, ims_nil, ims_im, okAl_im, okAl_bl, okAl_nil, okRt_im, okRt_bl, okRt_nil, mut_im, mut_bl, mut_ls, mut_dc, lenU_tup, lenU_ls, tupU_tup, listU_tup, listU_ls, intU_num, ixU_tup, ixU_ls, ixU_dc, cutU_c, ixc0, ixc1, ixc2, ixp0, ixp1, mkTup_2, mkTup_3, mkTup_nil, mkLst_nil, okArgs_im, okArgs_nil, atI_0, atI_1, atI_2, isi_num_int, isi_num_bool, isi_tup_tuple, isi_num_tuple, wipeU, List.set_cons_zero, List.set_cons_succ, List.length_cons, List.length_nil, List.map_cons, List.map_nil, if_true, if_false, if_pos, Bool.false_eq_true, Bool.not_true, Bool.not_false, Bool.true_or, Bool.false_or, List.isEmpty_nil, List.isEmpty_cons, Option.map_none]
theorem gS_ev (r : Rule) (b : List Cell) (p : Pl) (l : List Cell) (o3 o5 o7 o8 o9 : Option U) (h : l.length ≤ 1000000) : ∃ o7' o8' o9', gS (fr11 r b o3 (some (.ls (l.map cD))) o5 (some (.im (pD p))) o7 o8 o9) = some (.nx (fr11 r b o3 (some (.ls ((addC r b l p).map cD))) o5 (some (.im (pD p))) o7' o8' o9')) := by
  refine ⟨some (.im (.num (near (st b) p : Nat))), some (.im (.num (st b p))), some (.im (.num (nxt r (st b) p))), ?_⟩
  unfold gS
  generalize hg : (fIfS (fB (f2 eqU (fVar 8) (fC (.im (.num 0))))) (fSet 9 ([] ++ []) (fIf (fB (f2 inU (fVar 7) (f2 ixU (fVar 0) (fC (.im (.num 0)))))) (fC (.im (.num 1))) (fC (.im (.num 0))))) (fIfS (fAnd (fB (f2 eqU (fVar 8) (fC (.im (.num 1))))) (fB (f2 inU (fVar 7) (f2 ixU (fVar 0) (fC (.im (.num 1))))))) (fSet 9 [] (fC (.im (.num 1)))) (fSet 9 ([] ++ []) (fIf (fB (f2 ltU (f2 addU (fVar 8) (fC (.im (.num 1)))) (f2 ixU (fVar 0) (fC (.im (.num 2)))))) (f2 addU (fVar 8) (fC (.im (.num 1)))) (fC (.im (.num 0))))))) = gn
  have hn := new_ev r b p o3 (some (.ls (l.map cD))) o5 o9
  rw [hg] at hn
  unfold fSeq
  rw [show fSet 7 [] (fCall lenU (fCons (fLc (fItems (fCallD F__law_around (fCons (fVar 6) fNil))) (bName 10) (fB (f2 eqU (f3 getU (fVar 2) (fVar 10) (fC (.im (.num 0)))) (fC (.im (.num 1))))) (fC (.im (.num 1))) [10]) fNil)) (fr11 r b o3 (some (.ls (l.map cD))) o5 (some (.im (pD p))) o7 o8 o9) = some (.nx (fr11 r b o3 (some (.ls (l.map cD))) o5 (some (.im (pD p))) (some (.im (.num (near (st b) p : Nat)))) o8 o9)) from by
    unfold fSet
    rw [near_lc, Option.bind_some, if_pos (okAl_nil _ _)]
    rfl, Option.bind_some]
  dsimp only
  rw [show fSet 8 [] (f3 getU (fVar 2) (fVar 6) (fC (.im (.num 0)))) (fr11 r b o3 (some (.ls (l.map cD))) o5 (some (.im (pD p))) (some (.im (.num (near (st b) p : Nat)))) o8 o9) = some (.nx (fr11 r b o3 (some (.ls (l.map cD))) o5 (some (.im (pD p))) (some (.im (.num (near (st b) p : Nat)))) (some (.im (.num (st b p)))) o9)) from by
    simp only [fRet, fU, fAnd, fOr, fB, f1, f2, f3, fSeq, fNext, fIfS, fIf, fC, fSet, fDrop, fItems, itemsU_b, itemsU_ls, itemsU_tup, fTup, fLst, fCons, fConsF, fNil, fCall, fCallD, fNot, fChain, fUnp, fPar, setAllU, fVar_0, fVar_s, Option.bind_some, Option.bind_none, Option.map_some, isB_bl, eqU_im, eqU_ls, eqU_bb, neU_im, neU_ls, neU_bl, ltU_num, gtU_num, leU_num, geU_num, addU_num, subU_num, negU_num, isN_tup, isN_none, notN_tup, notN_none, ims_nil, ims_im, okAl_im, okAl_bl, okAl_nil, okRt_im, okRt_bl, okRt_nil, mut_im, mut_bl, mut_ls, mut_dc, lenU_tup, lenU_ls, tupU_tup, listU_tup, listU_ls, intU_num, ixU_tup, ixU_ls, ixU_dc, cutU_c, ixc0, ixc1, ixc2, ixp0, ixp1, mkTup_2, mkTup_3, mkTup_nil, mkLst_nil, okArgs_im, okArgs_nil, atI_0, atI_1, atI_2, isi_num_int, isi_num_bool, isi_tup_tuple, isi_num_tuple, wipeU, List.set_cons_zero, List.set_cons_succ, List.length_cons, List.length_nil, List.map_cons, List.map_nil, if_true, if_false, if_pos, Bool.false_eq_true, Bool.not_true, Bool.not_false, Bool.true_or, Bool.false_or, List.isEmpty_nil, List.isEmpty_cons, Option.map_none, get_dK], Option.bind_some]
  dsimp only
  rw [hn, Option.bind_some]
  dsimp only
  have ha : addC r b l p = if 0 < nxt r (st b) p then l ++ [(p.1, p.2, nxt r (st b) p)] else l := by
    unfold addC stepC
    by_cases q : 0 < nxt r (st b) p
    · simp only [if_pos q]
    · simp only [if_neg q]
  rw [ha]
  by_cases q : 0 < nxt r (st b) p
  · rw [if_pos q]
    simp only [fRet, fU, fAnd, fOr, fB, f1, f2, f3, fSeq, fNext, fIfS, fIf, fC, fSet, fDrop, fItems, itemsU_b, itemsU_ls, itemsU_tup, fTup, fLst, fCons, fConsF, fNil, fCall, fCallD, fNot, fChain, fUnp, fPar, setAllU, fVar_0, fVar_s, Option.bind_some, Option.bind_none, Option.map_some, isB_bl, eqU_im, eqU_ls, eqU_bb, neU_im, neU_ls, neU_bl, ltU_num, gtU_num, leU_num, geU_num, addU_num, subU_num, negU_num, isN_tup, isN_none, notN_tup, notN_none, ims_nil, ims_im, okAl_im, okAl_bl, okAl_nil, okRt_im, okRt_bl, okRt_nil, mut_im, mut_bl, mut_ls, mut_dc, lenU_tup, lenU_ls, tupU_tup, listU_tup, listU_ls, intU_num, ixU_tup, ixU_ls, ixU_dc, cutU_c, ixc0, ixc1, ixc2, ixp0, ixp1, mkTup_2, mkTup_3, mkTup_nil, mkLst_nil, okArgs_im, okArgs_nil, atI_0, atI_1, atI_2, isi_num_int, isi_num_bool, isi_tup_tuple, isi_num_tuple, wipeU, List.set_cons_zero, List.set_cons_succ, List.length_cons, List.length_nil, List.map_cons, List.map_nil, if_true, if_false, if_pos, Bool.false_eq_true, Bool.not_true, Bool.not_false, Bool.true_or, Bool.false_or, List.isEmpty_nil, List.isEmpty_cons, Option.map_none, decide_eq_true q, mkTup_1, st_add1, List.nil_append]
    rw [show mkLst [cD (p.1, p.2, nxt r (st b) p)] = some (.ls [cD (p.1, p.2, nxt r (st b) p)]) from mkLst_ok (by simp), Option.bind_some, show addU (.ls (l.map cD)) (.ls [cD (p.1, p.2, nxt r (st b) p)]) = (if (l.map cD).length + 1 ≤ sizeLine then some (.ls (l.map cD ++ [cD (p.1, p.2, nxt r (st b) p)])) else none) from rfl, if_pos (by rw [List.length_map]; exact Nat.le_trans (Nat.succ_le_succ h) (by decide)), Option.bind_some]
    rw [List.map_append, if_pos (show okAl [4] 4 _ = true by unfold okAl; simp)]
    rfl
  · rw [if_neg q]
    simp only [fRet, fU, fAnd, fOr, fB, f1, f2, f3, fSeq, fNext, fIfS, fIf, fC, fSet, fDrop, fItems, itemsU_b, itemsU_ls, itemsU_tup, fTup, fLst, fCons, fConsF, fNil, fCall, fCallD, fNot, fChain, fUnp, fPar, setAllU, fVar_0, fVar_s, Option.bind_some, Option.bind_none, Option.map_some, isB_bl, eqU_im, eqU_ls, eqU_bb, neU_im, neU_ls, neU_bl, ltU_num, gtU_num, leU_num, geU_num, addU_num, subU_num, negU_num, isN_tup, isN_none, notN_tup, notN_none, ims_nil, ims_im, okAl_im, okAl_bl, okAl_nil, okRt_im, okRt_bl, okRt_nil, mut_im, mut_bl, mut_ls, mut_dc, lenU_tup, lenU_ls, tupU_tup, listU_tup, listU_ls, intU_num, ixU_tup, ixU_ls, ixU_dc, cutU_c, ixc0, ixc1, ixc2, ixp0, ixp1, mkTup_2, mkTup_3, mkTup_nil, mkLst_nil, okArgs_im, okArgs_nil, atI_0, atI_1, atI_2, isi_num_int, isi_num_bool, isi_tup_tuple, isi_num_tuple, wipeU, List.set_cons_zero, List.set_cons_succ, List.length_cons, List.length_nil, List.map_cons, List.map_nil, if_true, if_false, if_pos, Bool.false_eq_true, Bool.not_true, Bool.not_false, Bool.true_or, Bool.false_or, List.isEmpty_nil, List.isEmpty_cons, Option.map_none, decide_eq_false q, List.nil_append]
    rw [if_pos (show okAl [4] 4 _ = true by unfold okAl; simp)]
theorem addC_fold (r : Rule) (b : List Cell) : ∀ (ps : List Pl) (l : List Cell), ps.foldl (addC r b) l = l ++ ps.filterMap (stepC r (st b))
  | [], l => by simp
  | p :: ps, l => by
    rw [List.foldl_cons, addC_fold r b ps, List.filterMap_cons]
    unfold addC
    cases stepC r (st b) p <;> simp
theorem addC_len (r : Rule) (b l : List Cell) (p : Pl) : (addC r b l p).length ≤ l.length + 1 := by
  unfold addC
  split
  · rw [List.length_append]; exact Nat.le_refl _
  · omega
theorem insC_mem (ps : List Pl) (c : Cell) (p : Pl) : p ∈ insC ps c ↔ p ∈ ps ∨ p = pl c ∨ ∃ d ∈ nbs, p = pad (pl c) d := by
  unfold insC
  rw [(ins_all (nbs.map (pad (pl c))) (insP ps (pl c))).2 p, mem_insP, List.mem_map]
  constructor
  · rintro (⟨d, hd, e⟩ | e | a)
    · exact .inr (.inr ⟨d, hd, e.symm⟩)
    · exact .inr (.inl e)
    · exact .inl a
  · rintro (a | e | ⟨d, hd, e⟩)
    · exact .inr (.inr a)
    · exact .inr (.inl e)
    · exact .inl ⟨d, hd, e.symm⟩
theorem insC_nodup {ps : List Pl} (c : Cell) (nd : ps.Nodup) : (insC ps c).Nodup := (ins_all (nbs.map (pad (pl c))) (insP ps (pl c))).1 (insP_nodup nd)
theorem insC_all (cs : List Cell) : ∀ ps : List Pl, (ps.Nodup → (cs.foldl insC ps).Nodup) ∧ ∀ p, p ∈ cs.foldl insC ps ↔ p ∈ ps ∨ ∃ c ∈ cs, p = pl c ∨ ∃ d ∈ nbs, p = pad (pl c) d := by
  induction cs with
  | nil =>
    intro ps
    refine ⟨id, fun p => ⟨Or.inl, ?_⟩⟩
    rintro (a | ⟨c, hc, _⟩)
    · exact a
    · exact absurd hc List.not_mem_nil
  | cons c cs ih =>
    intro ps
    obtain ⟨h1, h2⟩ := ih (insC ps c)
    rw [List.foldl_cons]
    refine ⟨fun nd => h1 (insC_nodup c nd), fun p => ?_⟩
    rw [h2 p, insC_mem]
    constructor
    · rintro ((a | a) | ⟨x, hx, a⟩)
      · exact .inl a
      · exact .inr ⟨c, List.mem_cons_self, a⟩
      · exact .inr ⟨x, List.mem_cons_of_mem _ hx, a⟩
    · rintro (a | ⟨x, hx, a⟩)
      · exact .inl (.inl a)
      · rcases List.mem_cons.mp hx with e | hx
        · subst e
          exact .inl (.inr a)
        · exact .inr ⟨x, hx, a⟩
def placesL (b : List Cell) : List Pl := b.foldl insC []
theorem law_step_eq {r : Rule} (ok : r.Ok) {b : List Cell} (hb : Good b) : (srtP (placesL b)).filterMap (stepC r (st b)) = step r b := by
  obtain ⟨h1, h2⟩ := insC_all b []
  refine (rise_filterMap (srtP_rise (h1 List.nodup_nil))).ext (step_good r b).is fun c => ?_
  rw [mem_step ok hb, List.mem_filterMap]
  constructor
  · rintro ⟨p, _, e⟩
    obtain ⟨rfl, q⟩ := stepC_some.mp e
    exact q
  · intro q
    refine ⟨pl c, mem_srtP.mpr ((h2 _).mpr (.inr ?_)), stepC_some.mpr ⟨rfl, q⟩⟩
    obtain ⟨d, hd, n1, n2, n3, n4⟩ := nxt_near ok hb (p := pl c) (by omega)
    refine ⟨d, hd, ?_⟩
    by_cases e : pl c = pl d
    · exact .inl e
    · refine .inr ⟨((pl c).1 - d.1, (pl c).2 - d.2.1), ?_, Prod.ext (by show (pl c).1 = d.1 + ((pl c).1 - d.1); omega) (by show (pl c).2 = d.2.1 + ((pl c).2 - d.2.1); omega)⟩
      have e' : ¬ ((pl c).1 - d.1 = 0 ∧ (pl c).2 - d.2.1 = 0) := fun z => e (Prod.ext (by show (pl c).1 = d.1; omega) (by show (pl c).2 = d.2.1; omega))
      generalize (pl c).1 - d.1 = x at *
      generalize (pl c).2 - d.2.1 = y at *
      have hx : x = -1 ∨ x = 0 ∨ x = 1 := by omega
      have hy : y = -1 ∨ y = 0 ∨ y = 1 := by omega
      rcases hx with rfl | rfl | rfl <;> rcases hy with rfl | rfl | rfl <;> first | decide | exact absurd ⟨rfl, rfl⟩ e'
end VL

set_option Elab.async false
set_option linter.all false
set_option maxRecDepth 100000
set_option maxHeartbeats 400000
/-! VMg: the law's step evaluated; turns evaluated. -/
namespace VL
open PySem L2 PyProof.Rows

theorem pairs_cells : ∀ b : List Cell, pairsD (b.map fun c => NestedKey.tup [pD (pl c), .num c.2.2]) = some (dK b)
  | [] => rfl
  | c :: b => by
    show ((pairD (.tup [pD (pl c), .num c.2.2])).bind fun p => (pairsD (b.map fun c => NestedKey.tup [pD (pl c), .num c.2.2])).map (p :: ·)) = _
    rw [pairs_cells b]
    rfl
theorem dict_cells {b : List Cell} (h : IsB b) : dictU [.ls (b.map fun c => NestedKey.tup [pD (pl c), .num c.2.2])] = some (.dc (dK b)) := by
  show (pairsD (b.map fun c => NestedKey.tup [pD (pl c), .num c.2.2])).map _ = _
  rw [pairs_cells, Option.map_some]
  congr 2
  have q := fold_sto (fun p : D × W => p.1) (fun p => p.2) (dK b) [] (by
    have q := pD_nodup (places_nodup h)
    unfold dK
    rw [List.map_map]
    rw [List.map_map] at q
    exact q) (fun _ _ => by simp)
  rw [List.nil_append, List.map_id'' (fun x => rfl)] at q
  exact q
theorem placesL_len (C : Nat) (hC : C ≤ 1000000) (r : Rule) (b : List Cell) (hb : 9 * b.length ≤ C) : ∃ o5 o6, fFor (fItems (fVar 1)) (bName 5) gP (fr11 r b (some (.dc (dB []))) (some (.ls (([] : List Cell).map cD))) none none none none none) = some (.nx (fr11 r b (some (.dc (dB (placesL b)))) (some (.ls (([] : List Cell).map cD))) o5 o6 none none none)) ∧ (placesL b).length ≤ C := by
  obtain ⟨τ', h1, o5, o6, rfl, h2⟩ := loopV_ix (b := bName 5) (g := gP) cD (fun n ps τ => ∃ o5 o6, τ = fr11 r b (some (.dc (dB ps))) (some (.ls (([] : List Cell).map cD))) o5 o6 none none none ∧ ps.length + 9 * n ≤ C) insC b (fun c _ n ps τ ⟨o5, o6, e, hl⟩ => by
    subst e
    obtain ⟨o6', e1, e2⟩ := gP_ev C hC r b c ps (some (.ls (([] : List Cell).map cD))) o6 none none none (9 * n) (by omega)
    exact ⟨_, _, rfl, e1, _, o6', rfl, e2⟩) 0 [] (fr11 r b (some (.dc (dB []))) (some (.ls (([] : List Cell).map cD))) none none none none none) ⟨none, none, rfl, by simpa using hb⟩
  refine ⟨o5, o6, ?_, h2⟩
  unfold fFor
  rw [show fItems (fVar 1) (fr11 r b (some (.dc (dB []))) (some (.ls (([] : List Cell).map cD))) none none none none none) = some (b.map cD) from rfl, Option.bind_some]
  exact h1
theorem E__law_step {r : Rule} (ok : r.Ok) {b : List Cell} (hb : Good b) (hl : b.length ≤ 10000) : F__law_step [.im (rD r), .im (bD b)] = some (.im (bD (step r b))) := by
  obtain ⟨o5, o6, p1, p2⟩ := placesL_len (9 * b.length) (by omega) r b (Nat.le_refl _)
  have hkeys : keysU (.dc (dB (placesL b))) = some ((placesL b).map pD) := by
    show some ((dB (placesL b)).map (·.1)) = _
    rw [dB_keys]
  have hlen : (srtP (placesL b)).length = (placesL b).length := by unfold srtP; rw [List.length_mergeSort]
  obtain ⟨τ2, s1, o6', o7, o8, o9, rfl, s2⟩ := loopV_ix (b := bName 6) (g := gS) pD (fun n l τ => ∃ o6 o7 o8 o9, τ = fr11 r b (some (.dc (dB (placesL b)))) (some (.ls (l.map cD))) o5 o6 o7 o8 o9 ∧ l.length + n ≤ 9 * b.length) (addC r b) (srtP (placesL b)) (fun p _ n l τ ⟨o6, o7, o8, o9, e, hl⟩ => by
    subst e
    obtain ⟨o7', o8', o9', e1⟩ := gS_ev r b p l (some (.dc (dB (placesL b)))) o5 o7 o8 o9 (by omega)
    refine ⟨_, _, rfl, e1, _, o7', o8', o9', rfl, ?_⟩
    have := addC_len r b l p
    omega) 0 [] (fr11 r b (some (.dc (dB (placesL b)))) (some (.ls (([] : List Cell).map cD))) o5 o6 none none none) ⟨o6, none, none, none, rfl, by simpa [hlen] using p2⟩
  rw [addC_fold, List.nil_append, law_step_eq ok hb] at s1
  have e0 : g__law_step = fSeq (fPar [2, 3, 4] (fConsF [] (fCall dictU (fCons (fLc (fItems (fVar 1)) (bName 5) fYes (fTup (fCons (f2 cutU (fVar 5) (fC (.im (.num 2)))) (fCons (f2 ixU (fVar 5) (fC (.im (.num 2)))) fNil))) [5]) fNil)) (fConsF [] (fC (.dc [])) (fConsF [] (fLst fNil) fNil)))) (fSeq (fFor (fItems (fVar 1)) (bName 5) gP) (fSeq (fFor (fItems (fSK (fVar 3))) (bName 6) gS) (fRet [3] [] (fCall tupU (fCons (fVar 4) fNil))))) := rfl
  unfold F__law_step runG
  show (g__law_step [some (.im (rD r)), some (.im (bD b)), none, none, none, none, none, none, none, none, none]).bind _ = _
  rw [e0]
  unfold fSeq
  have f1 : fPar [2, 3, 4] (fConsF [] (fCall dictU (fCons (fLc (fItems (fVar 1)) (bName 5) fYes (fTup (fCons (f2 cutU (fVar 5) (fC (.im (.num 2)))) (fCons (f2 ixU (fVar 5) (fC (.im (.num 2)))) fNil))) [5]) fNil)) (fConsF [] (fC (.dc [])) (fConsF [] (fLst fNil) fNil))) [some (.im (rD r)), some (.im (bD b)), none, none, none, none, none, none, none, none, none] = some (.nx (fr11 r b (some (.dc (dB []))) (some (.ls (([] : List Cell).map cD))) none none none none none)) := by
    have hs : b.length < sizeLine := lt_size (by omega)
    simp only [fRet, fU, fAnd, fOr, fB, f1, f2, f3, fSeq, fNext, fIfS, fIf, fC, fSet, fDrop, fItems, itemsU_b, itemsU_ls, itemsU_tup, fTup, fLst, fCons, fConsF, fNil, fCall, fCallD, fNot, fChain, fUnp, fPar, setAllU, fVar_0, fVar_s, Option.bind_some, Option.bind_none, Option.map_some, isB_bl, eqU_im, eqU_ls, eqU_bb, neU_im, neU_ls, neU_bl, ltU_num, gtU_num, leU_num, geU_num, addU_num, subU_num, negU_num, isN_tup, isN_none, notN_tup, notN_none, ims_nil, ims_im, okAl_im, okAl_bl, okAl_nil, okRt_im, okRt_bl, okRt_nil, mut_im, mut_bl, mut_ls, mut_dc, lenU_tup, lenU_ls, tupU_tup, listU_tup, listU_ls, intU_num, ixU_tup, ixU_ls, ixU_dc, cutU_c, ixc0, ixc1, ixc2, ixp0, ixp1, mkTup_2, mkTup_3, mkTup_nil, mkLst_nil, okArgs_im, okArgs_nil, atI_0, atI_1, atI_2, isi_num_int, isi_num_bool, isi_tup_tuple, isi_num_tuple, wipeU, List.set_cons_zero, List.set_cons_succ, List.length_cons, List.length_nil, List.map_cons, List.map_nil, if_true, if_false, if_pos, Bool.false_eq_true, Bool.not_true, Bool.not_false, Bool.true_or, Bool.false_or, List.isEmpty_nil, List.isEmpty_cons, Option.map_none, fLc, List.length_map, hs]
    rw [lc_cells (fun c => NestedKey.tup [pD (pl c), .num c.2.2]) b (fun c _ => ⟨_, bName_e 5 _ _, by
      simp only [fRet, fU, fAnd, fOr, fB, f1, f2, f3, fSeq, fNext, fIfS, fIf, fC, fSet, fDrop, fItems, itemsU_b, itemsU_ls, itemsU_tup, fTup, fLst, fCons, fConsF, fNil, fCall, fCallD, fNot, fChain, fUnp, fPar, setAllU, fVar_0, fVar_s, Option.bind_some, Option.bind_none, Option.map_some, isB_bl, eqU_im, eqU_ls, eqU_bb, neU_im, neU_ls, neU_bl, ltU_num, gtU_num, leU_num, geU_num, addU_num, subU_num, negU_num, isN_tup, isN_none, notN_tup, notN_none, ims_nil, ims_im, okAl_im, okAl_bl, okAl_nil, okRt_im, okRt_bl, okRt_nil, mut_im, mut_bl, mut_ls, mut_dc, lenU_tup, lenU_ls, tupU_tup, listU_tup, listU_ls, intU_num, ixU_tup, ixU_ls, ixU_dc, cutU_c, ixc0, ixc1, ixc2, ixp0, ixp1, mkTup_2, mkTup_3, mkTup_nil, mkLst_nil, okArgs_im, okArgs_nil, atI_0, atI_1, atI_2, isi_num_int, isi_num_bool, isi_tup_tuple, isi_num_tuple, wipeU, List.set_cons_zero, List.set_cons_succ, List.length_cons, List.length_nil, List.map_cons, List.map_nil, if_true, if_false, if_pos, Bool.false_eq_true, Bool.not_true, Bool.not_false, Bool.true_or, Bool.false_or, List.isEmpty_nil, List.isEmpty_cons, Option.map_none]
      rw [mkTup_ok (fun x hd => by
        simp only [List.mem_cons, List.not_mem_nil, or_false] at hd
        have := depth_pD (pl c)
        rcases hd with rfl | rfl
        · omega
        · simp [NestedKey.depth]) (by simp)]⟩)]
    simp only [fRet, fU, fAnd, fOr, fB, f1, f2, f3, fSeq, fNext, fIfS, fIf, fC, fSet, fDrop, fItems, itemsU_b, itemsU_ls, itemsU_tup, fTup, fLst, fCons, fConsF, fNil, fCall, fCallD, fNot, fChain, fUnp, fPar, setAllU, fVar_0, fVar_s, Option.bind_some, Option.bind_none, Option.map_some, isB_bl, eqU_im, eqU_ls, eqU_bb, neU_im, neU_ls, neU_bl, ltU_num, gtU_num, leU_num, geU_num, addU_num, subU_num, negU_num, isN_tup, isN_none, notN_tup, notN_none, ims_nil, ims_im, okAl_im, okAl_bl, okAl_nil, okRt_im, okRt_bl, okRt_nil, mut_im, mut_bl, mut_ls, mut_dc, lenU_tup, lenU_ls, tupU_tup, listU_tup, listU_ls, intU_num, ixU_tup, ixU_ls, ixU_dc, cutU_c, ixc0, ixc1, ixc2, ixp0, ixp1, mkTup_2, mkTup_3, mkTup_nil, mkLst_nil, okArgs_im, okArgs_nil, atI_0, atI_1, atI_2, isi_num_int, isi_num_bool, isi_tup_tuple, isi_num_tuple, wipeU, List.set_cons_zero, List.set_cons_succ, List.length_cons, List.length_nil, List.map_cons, List.map_nil, if_true, if_false, if_pos, Bool.false_eq_true, Bool.not_true, Bool.not_false, Bool.true_or, Bool.false_or, List.isEmpty_nil, List.isEmpty_cons, Option.map_none, dict_cells hb.is, Bool.or_true]
    rfl
  rw [f1, Option.bind_some]
  dsimp only
  rw [p1, Option.bind_some]
  dsimp only
  have f2 : fFor (fItems (fSK (fVar 3))) (bName 6) gS (fr11 r b (some (.dc (dB (placesL b)))) (some (.ls (([] : List Cell).map cD))) o5 o6 none none none) = some (.nx (fr11 r b (some (.dc (dB (placesL b)))) (some (.ls ((step r b).map cD))) o5 o6' o7 o8 o9)) := by
    unfold fFor
    rw [show fItems (fSK (fVar 3)) (fr11 r b (some (.dc (dB (placesL b)))) (some (.ls (([] : List Cell).map cD))) o5 o6 none none none) = some ((srtP (placesL b)).map pD) from by
      simp only [fRet, fU, fAnd, fOr, fB, f1, f2, f3, fSeq, fNext, fIfS, fIf, fC, fSet, fDrop, fItems, itemsU_b, itemsU_ls, itemsU_tup, fTup, fLst, fCons, fConsF, fNil, fCall, fCallD, fNot, fChain, fUnp, fPar, setAllU, fVar_0, fVar_s, Option.bind_some, Option.bind_none, Option.map_some, isB_bl, eqU_im, eqU_ls, eqU_bb, neU_im, neU_ls, neU_bl, ltU_num, gtU_num, leU_num, geU_num, addU_num, subU_num, negU_num, isN_tup, isN_none, notN_tup, notN_none, ims_nil, ims_im, okAl_im, okAl_bl, okAl_nil, okRt_im, okRt_bl, okRt_nil, mut_im, mut_bl, mut_ls, mut_dc, lenU_tup, lenU_ls, tupU_tup, listU_tup, listU_ls, intU_num, ixU_tup, ixU_ls, ixU_dc, cutU_c, ixc0, ixc1, ixc2, ixp0, ixp1, mkTup_2, mkTup_3, mkTup_nil, mkLst_nil, okArgs_im, okArgs_nil, atI_0, atI_1, atI_2, isi_num_int, isi_num_bool, isi_tup_tuple, isi_num_tuple, wipeU, List.set_cons_zero, List.set_cons_succ, List.length_cons, List.length_nil, List.map_cons, List.map_nil, if_true, if_false, if_pos, Bool.false_eq_true, Bool.not_true, Bool.not_false, Bool.true_or, Bool.false_or, List.isEmpty_nil, List.isEmpty_cons, Option.map_none, fSK, hkeys, if_pos (srtOk_p _), srtD_map]
      rfl, Option.bind_some]
    exact s1
  rw [f2, Option.bind_some]
  simp only [fRet, fU, fAnd, fOr, fB, f1, f2, f3, fSeq, fNext, fIfS, fIf, fC, fSet, fDrop, fItems, itemsU_b, itemsU_ls, itemsU_tup, fTup, fLst, fCons, fConsF, fNil, fCall, fCallD, fNot, fChain, fUnp, fPar, setAllU, fVar_0, fVar_s, Option.bind_some, Option.bind_none, Option.map_some, isB_bl, eqU_im, eqU_ls, eqU_bb, neU_im, neU_ls, neU_bl, ltU_num, gtU_num, leU_num, geU_num, addU_num, subU_num, negU_num, isN_tup, isN_none, notN_tup, notN_none, ims_nil, ims_im, okAl_im, okAl_bl, okAl_nil, okRt_im, okRt_bl, okRt_nil, mut_im, mut_bl, mut_ls, mut_dc, lenU_tup, lenU_ls, tupU_tup, listU_tup, listU_ls, intU_num, ixU_tup, ixU_ls, ixU_dc, cutU_c, ixc0, ixc1, ixc2, ixp0, ixp1, mkTup_2, mkTup_3, mkTup_nil, mkLst_nil, okArgs_im, okArgs_nil, atI_0, atI_1, atI_2, isi_num_int, isi_num_bool, isi_tup_tuple, isi_num_tuple, wipeU, List.set_cons_zero, List.set_cons_succ, List.length_cons, List.length_nil, List.map_cons, List.map_nil, if_true, if_false, if_pos, Bool.false_eq_true, Bool.not_true, Bool.not_false, Bool.true_or, Bool.false_or, List.isEmpty_nil, List.isEmpty_cons, Option.map_none, tupU_cells]

/-! ### turns -/
theorem ltD_cD (c d : Cell) : ltD (cD c) (cD d) = decide (plt (pl c) (pl d) ∨ (pl c = pl d ∧ c.2.2 < d.2.2)) := by
  obtain ⟨a, b, s⟩ := c; obtain ⟨a', b', s'⟩ := d
  rw [cD_nD, cD_nD, ltD_nums]
  congr 1
  simp only [List.cons_lt_cons_iff, List.not_lt_nil, and_false, or_false, List.lt_irrefl, plt, pl, Prod.mk.injEq]
  refine propext ⟨fun h => ?_, fun h => ?_⟩
  · rcases h with h | ⟨h1, h | ⟨h2, h⟩⟩
    · exact .inl (.inl h)
    · exact .inl (.inr ⟨h1, h⟩)
    · exact .inr ⟨⟨h1, h2⟩, h⟩
  · rcases h with (h | ⟨h1, h⟩) | ⟨⟨h1, h2⟩, h⟩
    · exact .inl h
    · exact .inr ⟨h1, .inl h⟩
    · exact .inr ⟨h1, .inr ⟨h2, h⟩⟩
def srtC (b : List Cell) : List Cell := b.mergeSort fun c d => !ltD (cD d) (cD c)
theorem srtOk_c (b : List Cell) : SrtOk (b.map cD) := ⟨fun x hx y hy => by
  obtain ⟨a, _, rfl⟩ := List.mem_map.mp hx
  obtain ⟨b, _, rfl⟩ := List.mem_map.mp hy
  exact alD_nums [a.1, a.2.1, a.2.2] [b.1, b.2.1, b.2.2], Or.inl fun x hx => by
  obtain ⟨a, _, rfl⟩ := List.mem_map.mp hx
  rfl⟩
theorem srtU_c (b : List Cell) : srtU [.ls (b.map cD)] = some (.ls ((srtC b).map cD)) := by
  show (if SrtOk (b.map cD) then some (U.ls (srtD (b.map cD))) else none) = _
  rw [if_pos (srtOk_c b), srtD_map]
  rfl
theorem mem_srtC {b : List Cell} {c : Cell} : c ∈ srtC b ↔ c ∈ b := by unfold srtC; exact List.mem_mergeSort
theorem srtC_len (b : List Cell) : (srtC b).length = b.length := by unfold srtC; rw [List.length_mergeSort]
theorem srtC_is {b : List Cell} (nd : (b.map pl).Nodup) : IsB (srtC b) := by
  unfold srtC
  have h := List.pairwise_mergeSort (le := fun c d => !ltD (cD d) (cD c)) (fun a b c h1 h2 => by
    rw [ltD_cD] at *
    simp only [Bool.not_eq_true', decide_eq_false_iff_not] at *
    rintro (z | ⟨z1, z2⟩)
    · rcases plt_tri (pl b) (pl a) with q | q | q
      · exact h1 (.inl q)
      · exact h2 (.inl (q ▸ z))
      · exact h2 (.inl (plt_trans z q))
    · rcases plt_tri (pl b) (pl a) with q | q | q
      · exact h1 (.inl q)
      · refine h1 (.inr ⟨q, ?_⟩)
        have : ¬ c.2.2 < b.2.2 := fun w => h2 (.inr ⟨z1.trans q.symm, w⟩)
        omega
      · exact h2 (.inl (z1 ▸ q))) (fun a b => by
    rw [ltD_cD, ltD_cD]
    by_cases q : plt (pl b) (pl a) ∨ (pl b = pl a ∧ b.2.2 < a.2.2)
    · have : ¬ (plt (pl a) (pl b) ∨ (pl a = pl b ∧ a.2.2 < b.2.2)) := by
        rintro (z | ⟨z1, z2⟩)
        · rcases q with q | ⟨q1, _⟩
          · exact plt_asym q z
          · rw [q1] at z; exact plt_irr _ z
        · rcases q with q | ⟨_, q2⟩
          · rw [z1] at q; exact plt_irr _ q
          · omega
      rw [decide_eq_true q, decide_eq_false this]
      rfl
    · rw [decide_eq_false q]
      rfl) b
  have nd2 : ((b.mergeSort fun c d => !ltD (cD d) (cD c)).map pl).Nodup := ((List.mergeSort_perm b _).map pl).nodup_iff.mpr nd
  unfold List.Nodup at nd2
  rw [List.pairwise_map] at nd2
  refine (h.and nd2).imp fun {a b} ⟨h1, h2⟩ => ?_
  rw [ltD_cD] at h1
  simp only [Bool.not_eq_true', decide_eq_false_iff_not] at h1
  rcases plt_tri (pl a) (pl b) with q | q | q
  · exact q
  · exact absurd q h2
  · exact absurd (.inl q) h1
def turn (t : Nat) (b : List Cell) : List Cell := srtC (b.map (mv t (0, 0)))
theorem turn_mv (t : Nat) {b : List Cell} (h : Good b) : Mv t (0, 0) b (turn t b) := by
  have nd : ((b.map (mv t (0, 0))).map pl).Nodup := by
    rw [List.map_map]
    unfold List.Nodup
    rw [List.pairwise_map]
    refine h.is.imp fun {c d} q e => ?_
    have e : mvP t (0, 0) (pl c) = mvP t (0, 0) (pl d) := e
    unfold cLt at q
    rw [mvP_inj e] at q
    exact plt_irr _ q
  have mem : ∀ c, c ∈ turn t b ↔ ∃ d ∈ b, c = mv t (0, 0) d := fun c => by
    unfold turn
    rw [mem_srtC, List.mem_map]
    exact ⟨fun ⟨d, hd, e⟩ => ⟨d, hd, e.symm⟩, fun ⟨d, hd, e⟩ => ⟨d, hd, e.symm⟩⟩
  refine ⟨⟨srtC_is nd, fun c hc => ?_⟩, mem⟩
  obtain ⟨d, hd, rfl⟩ := (mem c).mp hc
  exact h.pos d hd
theorem turn_len (t : Nat) (b : List Cell) : (turn t b).length = b.length := by unfold turn; rw [srtC_len, List.length_map]
end VL

set_option Elab.async false
set_option linter.all false
set_option maxRecDepth 100000
set_option maxHeartbeats 400000
/-! VMh: turns evaluated. -/
namespace VL
open PySem L2 PyProof.Rows

theorem lt8 {C : Nat → Prop} {t : Nat} (h : t < 8) (h0 : C 0) (h1 : C 1) (h2 : C 2) (h3 : C 3) (h4 : C 4) (h5 : C 5) (h6 : C 6) (h7 : C 7) : C t := by
  match t, h with
  | 0, _ => exact h0
  | 1, _ => exact h1
  | 2, _ => exact h2
  | 3, _ => exact h3
  | 4, _ => exact h4
  | 5, _ => exact h5
  | 6, _ => exact h6
  | 7, _ => exact h7
  | t + 8, h => omega
def rotP (p : Pl) : Pl := (-p.2, p.1)
def quart (t : Nat) : Nat := ((t : Int) % 4).toNat
theorem turn_rot (x y : Int) {t : Nat} (h : t < 8) : (List.range (quart t)).foldl (fun p _ => rotP p) (if (4 : Int) ≤ (t : Int) then (-x, y) else (x, y)) = turnP t (x, y) := by
  refine lt8 (C := fun t => (List.range (quart t)).foldl (fun p _ => rotP p) (if (4 : Int) ≤ (t : Int) then (-x, y) else (x, y)) = turnP t (x, y)) h ?_ ?_ ?_ ?_ ?_ ?_ ?_ ?_
  · rfl
  · rfl
  · rfl
  · show ((- -y, -x) : Pl) = (y, -x); rw [Int.neg_neg]
  · rfl
  · rfl
  · show ((- -x, -y) : Pl) = (x, -y); rw [Int.neg_neg]
  · show ((- -y, - -x) : Pl) = (y, x); rw [Int.neg_neg, Int.neg_neg]
theorem rng1_ev {fa : Sh → Option (List U)} {τ : Sh} {k : Nat} (hk : k < 1000000) (h : fa τ = some [.im (.num (k : Int))]) : fRng1 fa τ = some (rngD 0 k) := by
  unfold fRng1
  rw [h, Option.bind_some]
  have e : (2 : Int) ^ 62 = 4611686018427387904 := by decide
  show (if -(2 ^ 62) ≤ (k : Int) ∧ (k : Int) < 2 ^ 62 then some (rngD 0 (k : Int).toNat) else none) = _
  rw [e, if_pos ⟨by omega, by omega⟩, Int.toNat_natCast]
theorem gRot_ev (x y : Int) (o2 o3 : Option U) : fPar [0, 1] (fConsF [] (f1 negU (fVar 1)) (fConsF [0] (fVar 0) fNil)) [some (.im (.num x)), some (.im (.num y)), o2, o3] = some (.nx [some (.im (.num (-y))), some (.im (.num x)), o2, o3]) := by
  simp only [fRet, fU, fAnd, fOr, fB, f1, f2, f3, fSeq, fNext, fIfS, fIf, fC, fSet, fDrop, fItems, itemsU_b, itemsU_ls, itemsU_tup, fTup, fLst, fCons, fConsF, fNil, fCall, fCallD, fNot, fChain, fUnp, fPar, setAllU, fVar_0, fVar_s, Option.bind_some, Option.bind_none, Option.map_some, isB_bl, eqU_im, eqU_ls, eqU_bb, neU_im, neU_ls, neU_bl, ltU_num, gtU_num, leU_num, geU_num, addU_num, subU_num, negU_num, isN_tup, isN_none, notN_tup, notN_none, ims_nil, ims_im, okAl_im, okAl_bl, okAl_nil, okRt_im, okRt_bl, okRt_nil, mut_im, mut_bl, mut_ls, mut_dc, lenU_tup, lenU_ls, tupU_tup, listU_tup, listU_ls, intU_num, ixU_tup, ixU_ls, ixU_dc, cutU_c, ixc0, ixc1, ixc2, ixp0, ixp1, mkTup_2, mkTup_3, mkTup_nil, mkLst_nil, okArgs_im, okArgs_nil, atI_0, atI_1, atI_2, isi_num_int, isi_num_bool, isi_tup_tuple, isi_num_tuple, wipeU, List.set_cons_zero, List.set_cons_succ, List.length_cons, List.length_nil, List.map_cons, List.map_nil, if_true, if_false, if_pos, Bool.false_eq_true, Bool.not_true, Bool.not_false, Bool.true_or, Bool.false_or, List.isEmpty_nil, List.isEmpty_cons, Option.map_none]
theorem quart_lt (t : Nat) : quart t < 4 := by unfold quart; omega
theorem quart_eq (t : Nat) : ((quart t : Nat) : Int) = (t : Int) % 4 := by unfold quart; omega
theorem E_turned_place (x y : Int) {t : Nat} (h : t < 8) : F_turned_place [.im (.num x), .im (.num y), .im (.num (t : Int))] = some (.im (pD (turnP t (x, y)))) := by
  unfold F_turned_place runG
  show (g_turned_place [some (.im (.num x)), some (.im (.num y)), some (.im (.num (t : Int))), none]).bind _ = _
  obtain ⟨τ', h1, o3, rfl⟩ := loopV_rel (b := bName 3) (g := fPar [0, 1] (fConsF [] (f1 negU (fVar 1)) (fConsF [0] (fVar 0) fNil))) (fun (k : Nat) => NestedKey.num (0 + (k : Int))) (fun (p : Pl) τ => ∃ o3, τ = [some (.im (.num p.1)), some (.im (.num p.2)), some (.im (.num (t : Int))), o3]) (fun p _ => rotP p) (List.range (quart t)) (fun k _ p τ ⟨o3, e⟩ => by
    subst e
    exact ⟨_, _, rfl, gRot_ev p.1 p.2 _ _, _, rfl⟩) (if (4 : Int) ≤ (t : Int) then (-x, y) else (x, y)) [some (.im (.num (if (4 : Int) ≤ (t : Int) then (-x, y) else (x, y)).1)), some (.im (.num (if (4 : Int) ≤ (t : Int) then (-x, y) else (x, y)).2)), some (.im (.num (t : Int))), none] ⟨none, rfl⟩
  rw [turn_rot x y h] at h1
  have e1 : fIfS (fB (f2 geU (fVar 2) (fC (.im (.num 4))))) (fSet 0 [] (f1 negU (fVar 0))) fNext [some (.im (.num x)), some (.im (.num y)), some (.im (.num (t : Int))), none] = some (.nx [some (.im (.num (if (4 : Int) ≤ (t : Int) then (-x, y) else (x, y)).1)), some (.im (.num (if (4 : Int) ≤ (t : Int) then (-x, y) else (x, y)).2)), some (.im (.num (t : Int))), none]) := by
    by_cases q : (4 : Int) ≤ (t : Int)
    · simp only [fRet, fU, fAnd, fOr, fB, f1, f2, f3, fSeq, fNext, fIfS, fIf, fC, fSet, fDrop, fItems, itemsU_b, itemsU_ls, itemsU_tup, fTup, fLst, fCons, fConsF, fNil, fCall, fCallD, fNot, fChain, fUnp, fPar, setAllU, fVar_0, fVar_s, Option.bind_some, Option.bind_none, Option.map_some, isB_bl, eqU_im, eqU_ls, eqU_bb, neU_im, neU_ls, neU_bl, ltU_num, gtU_num, leU_num, geU_num, addU_num, subU_num, negU_num, isN_tup, isN_none, notN_tup, notN_none, ims_nil, ims_im, okAl_im, okAl_bl, okAl_nil, okRt_im, okRt_bl, okRt_nil, mut_im, mut_bl, mut_ls, mut_dc, lenU_tup, lenU_ls, tupU_tup, listU_tup, listU_ls, intU_num, ixU_tup, ixU_ls, ixU_dc, cutU_c, ixc0, ixc1, ixc2, ixp0, ixp1, mkTup_2, mkTup_3, mkTup_nil, mkLst_nil, okArgs_im, okArgs_nil, atI_0, atI_1, atI_2, isi_num_int, isi_num_bool, isi_tup_tuple, isi_num_tuple, wipeU, List.set_cons_zero, List.set_cons_succ, List.length_cons, List.length_nil, List.map_cons, List.map_nil, if_true, if_false, if_pos, Bool.false_eq_true, Bool.not_true, Bool.not_false, Bool.true_or, Bool.false_or, List.isEmpty_nil, List.isEmpty_cons, Option.map_none, decide_eq_true q, if_pos q]
    · simp only [fRet, fU, fAnd, fOr, fB, f1, f2, f3, fSeq, fNext, fIfS, fIf, fC, fSet, fDrop, fItems, itemsU_b, itemsU_ls, itemsU_tup, fTup, fLst, fCons, fConsF, fNil, fCall, fCallD, fNot, fChain, fUnp, fPar, setAllU, fVar_0, fVar_s, Option.bind_some, Option.bind_none, Option.map_some, isB_bl, eqU_im, eqU_ls, eqU_bb, neU_im, neU_ls, neU_bl, ltU_num, gtU_num, leU_num, geU_num, addU_num, subU_num, negU_num, isN_tup, isN_none, notN_tup, notN_none, ims_nil, ims_im, okAl_im, okAl_bl, okAl_nil, okRt_im, okRt_bl, okRt_nil, mut_im, mut_bl, mut_ls, mut_dc, lenU_tup, lenU_ls, tupU_tup, listU_tup, listU_ls, intU_num, ixU_tup, ixU_ls, ixU_dc, cutU_c, ixc0, ixc1, ixc2, ixp0, ixp1, mkTup_2, mkTup_3, mkTup_nil, mkLst_nil, okArgs_im, okArgs_nil, atI_0, atI_1, atI_2, isi_num_int, isi_num_bool, isi_tup_tuple, isi_num_tuple, wipeU, List.set_cons_zero, List.set_cons_succ, List.length_cons, List.length_nil, List.map_cons, List.map_nil, if_true, if_false, if_pos, Bool.false_eq_true, Bool.not_true, Bool.not_false, Bool.true_or, Bool.false_or, List.isEmpty_nil, List.isEmpty_cons, Option.map_none, decide_eq_false q, if_neg q]
  have e2 : ∀ τ, fVar 2 τ = some (.im (.num (t : Int))) → fRng1 (fCons (f2 modU (fVar 2) (fC (.im (.num 4)))) fNil) τ = some (rngD 0 (quart t)) := fun τ hτ => by
    have := quart_lt t
    refine rng1_ev (by omega) ?_
    have hm : modU (.im (.num (t : Int))) (.im (.num 4)) = some (.im (.num ((t : Int) % 4))) := modU_num _ _ (by decide)
    simp only [fRet, fU, fAnd, fOr, fB, f1, f2, f3, fSeq, fNext, fIfS, fIf, fC, fSet, fDrop, fItems, itemsU_b, itemsU_ls, itemsU_tup, fTup, fLst, fCons, fConsF, fNil, fCall, fCallD, fNot, fChain, fUnp, fPar, setAllU, fVar_0, fVar_s, Option.bind_some, Option.bind_none, Option.map_some, isB_bl, eqU_im, eqU_ls, eqU_bb, neU_im, neU_ls, neU_bl, ltU_num, gtU_num, leU_num, geU_num, addU_num, subU_num, negU_num, isN_tup, isN_none, notN_tup, notN_none, ims_nil, ims_im, okAl_im, okAl_bl, okAl_nil, okRt_im, okRt_bl, okRt_nil, mut_im, mut_bl, mut_ls, mut_dc, lenU_tup, lenU_ls, tupU_tup, listU_tup, listU_ls, intU_num, ixU_tup, ixU_ls, ixU_dc, cutU_c, ixc0, ixc1, ixc2, ixp0, ixp1, mkTup_2, mkTup_3, mkTup_nil, mkLst_nil, okArgs_im, okArgs_nil, atI_0, atI_1, atI_2, isi_num_int, isi_num_bool, isi_tup_tuple, isi_num_tuple, wipeU, List.set_cons_zero, List.set_cons_succ, List.length_cons, List.length_nil, List.map_cons, List.map_nil, if_true, if_false, if_pos, Bool.false_eq_true, Bool.not_true, Bool.not_false, Bool.true_or, Bool.false_or, List.isEmpty_nil, List.isEmpty_cons, Option.map_none, hτ, hm]
    rw [quart_eq]
  have e0 : g_turned_place = fSeq (fIfS (fB (f2 geU (fVar 2) (fC (.im (.num 4))))) (fSet 0 [] (f1 negU (fVar 0))) fNext) (fSeq (fFor (fRng1 (fCons (f2 modU (fVar 2) (fC (.im (.num 4)))) fNil)) (bName 3) (fPar [0, 1] (fConsF [] (f1 negU (fVar 1)) (fConsF [0] (fVar 0) fNil)))) (fRet [] [] (fTup (fCons (fVar 0) (fCons (fVar 1) fNil))))) := rfl
  rw [e0]
  unfold fSeq
  rw [e1, Option.bind_some]
  dsimp only
  unfold fFor
  rw [e2 _ rfl, Option.bind_some]
  unfold rngD
  rw [h1, Option.bind_some]
  simp only [fRet, fU, fAnd, fOr, fB, f1, f2, f3, fSeq, fNext, fIfS, fIf, fC, fSet, fDrop, fItems, itemsU_b, itemsU_ls, itemsU_tup, fTup, fLst, fCons, fConsF, fNil, fCall, fCallD, fNot, fChain, fUnp, fPar, setAllU, fVar_0, fVar_s, Option.bind_some, Option.bind_none, Option.map_some, isB_bl, eqU_im, eqU_ls, eqU_bb, neU_im, neU_ls, neU_bl, ltU_num, gtU_num, leU_num, geU_num, addU_num, subU_num, negU_num, isN_tup, isN_none, notN_tup, notN_none, ims_nil, ims_im, okAl_im, okAl_bl, okAl_nil, okRt_im, okRt_bl, okRt_nil, mut_im, mut_bl, mut_ls, mut_dc, lenU_tup, lenU_ls, tupU_tup, listU_tup, listU_ls, intU_num, ixU_tup, ixU_ls, ixU_dc, cutU_c, ixc0, ixc1, ixc2, ixp0, ixp1, mkTup_2, mkTup_3, mkTup_nil, mkLst_nil, okArgs_im, okArgs_nil, atI_0, atI_1, atI_2, isi_num_int, isi_num_bool, isi_tup_tuple, isi_num_tuple, wipeU, List.set_cons_zero, List.set_cons_succ, List.length_cons, List.length_nil, List.map_cons, List.map_nil, if_true, if_false, if_pos, Bool.false_eq_true, Bool.not_true, Bool.not_false, Bool.true_or, Bool.false_or, List.isEmpty_nil, List.isEmpty_cons, Option.map_none]
theorem cD_turn (t : Nat) (c : Cell) : addU (.im (pD (turnP t (pl c)))) (.im (.tup [.num c.2.2])) = some (.im (cD (mv t (0, 0) c))) := by
  rw [st_add1]
  congr 3
  unfold mv
  exact Prod.ext (Int.add_zero _).symm (Prod.ext (Int.add_zero _).symm rfl)
theorem E_turned_in {b : List Cell} (hl : b.length ≤ 100000) {t : Nat} (h : t < 8) : F_turned_in [.im (bD b), .im (.num (t : Int))] = some (.im (bD (turn t b))) := by
  unfold F_turned_in runG
  show (g_turned_in [some (.im (bD b)), some (.im (.num (t : Int))), none, none, none]).bind _ = _
  have hs : b.length < sizeLine := lt_size (by omega)
  simp only [g_turned_in, fRet, fU, fAnd, fOr, fB, f1, f2, f3, fSeq, fNext, fIfS, fIf, fC, fSet, fDrop, fItems, itemsU_b, itemsU_ls, itemsU_tup, fTup, fLst, fCons, fConsF, fNil, fCall, fCallD, fNot, fChain, fUnp, fPar, setAllU, fVar_0, fVar_s, Option.bind_some, Option.bind_none, Option.map_some, isB_bl, eqU_im, eqU_ls, eqU_bb, neU_im, neU_ls, neU_bl, ltU_num, gtU_num, leU_num, geU_num, addU_num, subU_num, negU_num, isN_tup, isN_none, notN_tup, notN_none, ims_nil, ims_im, okAl_im, okAl_bl, okAl_nil, okRt_im, okRt_bl, okRt_nil, mut_im, mut_bl, mut_ls, mut_dc, lenU_tup, lenU_ls, tupU_tup, listU_tup, listU_ls, intU_num, ixU_tup, ixU_ls, ixU_dc, cutU_c, ixc0, ixc1, ixc2, ixp0, ixp1, mkTup_2, mkTup_3, mkTup_nil, mkLst_nil, okArgs_im, okArgs_nil, atI_0, atI_1, atI_2, isi_num_int, isi_num_bool, isi_tup_tuple, isi_num_tuple, wipeU, List.set_cons_zero, List.set_cons_succ, List.length_cons, List.length_nil, List.map_cons, List.map_nil, if_true, if_false, if_pos, Bool.false_eq_true, Bool.not_true, Bool.not_false, Bool.true_or, Bool.false_or, List.isEmpty_nil, List.isEmpty_cons, Option.map_none, fLc, List.length_map, hs]
  rw [lc_cells (fun c => cD (mv t (0, 0) c)) b (fun c _ => ?_)]
  · have e : b.map (fun c => cD (mv t (0, 0) c)) = (b.map (mv t (0, 0))).map cD := by rw [List.map_map]; rfl
    rw [e]
    simp only [fRet, fU, fAnd, fOr, fB, f1, f2, f3, fSeq, fNext, fIfS, fIf, fC, fSet, fDrop, fItems, itemsU_b, itemsU_ls, itemsU_tup, fTup, fLst, fCons, fConsF, fNil, fCall, fCallD, fNot, fChain, fUnp, fPar, setAllU, fVar_0, fVar_s, Option.bind_some, Option.bind_none, Option.map_some, isB_bl, eqU_im, eqU_ls, eqU_bb, neU_im, neU_ls, neU_bl, ltU_num, gtU_num, leU_num, geU_num, addU_num, subU_num, negU_num, isN_tup, isN_none, notN_tup, notN_none, ims_nil, ims_im, okAl_im, okAl_bl, okAl_nil, okRt_im, okRt_bl, okRt_nil, mut_im, mut_bl, mut_ls, mut_dc, lenU_tup, lenU_ls, tupU_tup, listU_tup, listU_ls, intU_num, ixU_tup, ixU_ls, ixU_dc, cutU_c, ixc0, ixc1, ixc2, ixp0, ixp1, mkTup_2, mkTup_3, mkTup_nil, mkLst_nil, okArgs_im, okArgs_nil, atI_0, atI_1, atI_2, isi_num_int, isi_num_bool, isi_tup_tuple, isi_num_tuple, wipeU, List.set_cons_zero, List.set_cons_succ, List.length_cons, List.length_nil, List.map_cons, List.map_nil, if_true, if_false, if_pos, Bool.false_eq_true, Bool.not_true, Bool.not_false, Bool.true_or, Bool.false_or, List.isEmpty_nil, List.isEmpty_cons, Option.map_none, srtU_c, tupU_cells]
    rfl
  · obtain ⟨x, y, s⟩ := c
    refine ⟨_, bTup_3 x y s _, ?_⟩
    simp only [fRet, fU, fAnd, fOr, fB, f1, f2, f3, fSeq, fNext, fIfS, fIf, fC, fSet, fDrop, fItems, itemsU_b, itemsU_ls, itemsU_tup, fTup, fLst, fCons, fConsF, fNil, fCall, fCallD, fNot, fChain, fUnp, fPar, setAllU, fVar_0, fVar_s, Option.bind_some, Option.bind_none, Option.map_some, isB_bl, eqU_im, eqU_ls, eqU_bb, neU_im, neU_ls, neU_bl, ltU_num, gtU_num, leU_num, geU_num, addU_num, subU_num, negU_num, isN_tup, isN_none, notN_tup, notN_none, ims_nil, ims_im, okAl_im, okAl_bl, okAl_nil, okRt_im, okRt_bl, okRt_nil, mut_im, mut_bl, mut_ls, mut_dc, lenU_tup, lenU_ls, tupU_tup, listU_tup, listU_ls, intU_num, ixU_tup, ixU_ls, ixU_dc, cutU_c, ixc0, ixc1, ixc2, ixp0, ixp1, mkTup_2, mkTup_3, mkTup_nil, mkLst_nil, okArgs_im, okArgs_nil, atI_0, atI_1, atI_2, isi_num_int, isi_num_bool, isi_tup_tuple, isi_num_tuple, wipeU, List.set_cons_zero, List.set_cons_succ, List.length_cons, List.length_nil, List.map_cons, List.map_nil, if_true, if_false, if_pos, Bool.false_eq_true, Bool.not_true, Bool.not_false, Bool.true_or, Bool.false_or, List.isEmpty_nil, List.isEmpty_cons, Option.map_none, E_turned_place x y h, mkTup_1]
    exact cD_turn t (x, y, s)
theorem srtTU_c (b : List Cell) : srtTU [.im (bD b)] = some (.ls ((srtC b).map cD)) := by
  show (if SrtOk (b.map cD) then some (U.ls (srtD (b.map cD))) else none) = _
  rw [if_pos (srtOk_c b), srtD_map]
  rfl
/-! the law's turned piece -/
def flipC (c : Cell) : Cell := (0 - c.1, c.2.1, c.2.2)
def rotC (c : Cell) : Cell := (0 - c.2.1, c.1, c.2.2)
def flip0 (t : Nat) (b : List Cell) : List Cell := if (4 : Int) ≤ (t : Int) then b.map flipC else b
def flipM (t : Nat) (m : Pl) : Pl := if (4 : Int) ≤ (t : Int) then (0 - m.1, m.2) else m
theorem turn_rots (b : List Cell) (m : Pl) {t : Nat} (h : t < 8) : (List.range (quart t)).foldl (fun (x : List Cell × Pl) _ => (x.1.map rotC, ((0 - x.2.2, x.2.1) : Pl))) (flip0 t b, flipM t m) = (b.map (mv t (0, 0)), turnP t m) := by
  refine lt8 (C := fun t => (List.range (quart t)).foldl (fun (x : List Cell × Pl) _ => (x.1.map rotC, ((0 - x.2.2, x.2.1) : Pl))) (flip0 t b, flipM t m) = (b.map (mv t (0, 0)), turnP t m)) h ?_ ?_ ?_ ?_ ?_ ?_ ?_ ?_
  · show (b, m) = _
    rw [List.map_congr_left fun c _ => mv0_zero c, List.map_id']
    rfl
  · show (b.map rotC, ((0 - m.2, m.1) : Pl)) = _
    refine Prod.ext (List.map_congr_left fun c _ => ?_) (Prod.ext (Int.zero_sub _) rfl)
    simp [rotC, mv, turnP, pl]
  · show ((b.map rotC).map rotC, ((0 - m.1, 0 - m.2) : Pl)) = _
    rw [List.map_map]
    refine Prod.ext (List.map_congr_left fun c _ => ?_) (Prod.ext (Int.zero_sub _) (Int.zero_sub _))
    simp [rotC, mv, turnP, pl]
  · show (((b.map rotC).map rotC).map rotC, ((0 - (0 - m.2), 0 - m.1) : Pl)) = _
    rw [List.map_map, List.map_map]
    refine Prod.ext (List.map_congr_left fun c _ => ?_) (Prod.ext (by show 0 - (0 - m.2) = m.2; omega) (Int.zero_sub _))
    simp [rotC, mv, turnP, pl]
  · show (b.map flipC, ((0 - m.1, m.2) : Pl)) = _
    refine Prod.ext (List.map_congr_left fun c _ => ?_) (Prod.ext (Int.zero_sub _) rfl)
    simp [flipC, mv, turnP, pl]
  · show ((b.map flipC).map rotC, ((0 - m.2, 0 - m.1) : Pl)) = _
    rw [List.map_map]
    refine Prod.ext (List.map_congr_left fun c _ => ?_) (Prod.ext (Int.zero_sub _) (Int.zero_sub _))
    simp [flipC, rotC, mv, turnP, pl]
  · show (((b.map flipC).map rotC).map rotC, ((0 - (0 - m.1), 0 - m.2) : Pl)) = _
    rw [List.map_map, List.map_map]
    refine Prod.ext (List.map_congr_left fun c _ => ?_) (Prod.ext (by show 0 - (0 - m.1) = m.1; omega) (Int.zero_sub _))
    simp [flipC, rotC, mv, turnP, pl]
  · show ((((b.map flipC).map rotC).map rotC).map rotC, ((0 - (0 - m.2), 0 - (0 - m.1)) : Pl)) = _
    rw [List.map_map, List.map_map, List.map_map]
    refine Prod.ext (List.map_congr_left fun c _ => ?_) (Prod.ext (by show 0 - (0 - m.2) = m.2; omega) (by show 0 - (0 - m.1) = m.1; omega))
    simp [flipC, rotC, mv, turnP, pl]
abbrev fr8 (pc : D) (t : Nat) (b : List Cell) (per : D) (m0 : Pl) (m : Pl) (o6 : Option U) : Sh := [some (.im pc), some (.im (.num (t : Int))), some (.im (bD b)), some (.im per), some (.im (pD m0)), some (.im (pD m)), o6, none]
def gT : Sh → Option Res := (fSeq (fSet 2 [] (fCall tupU (fCons (fLc (fItems (fVar 2)) (bName 7) fYes (fTup (fCons (f2 subU (fC (.im (.num 0))) (f2 ixU (fVar 7) (fC (.im (.num 1))))) (fCons (f2 ixU (fVar 7) (fC (.im (.num 0)))) (fCons (f2 ixU (fVar 7) (fC (.im (.num 2)))) fNil)))) [7]) fNil)))
    (fSet 5 [] (fTup (fCons (f2 subU (fC (.im (.num 0))) (f2 ixU (fVar 5) (fC (.im (.num 1))))) (fCons (f2 ixU (fVar 5) (fC (.im (.num 0)))) fNil)))))
theorem gT_ev (pc : D) (t : Nat) (b : List Cell) (per : D) (m0 m : Pl) (o6 : Option U) (hl : b.length ≤ 100000) : gT (fr8 pc t b per m0 m o6) = some (.nx (fr8 pc t (b.map rotC) per m0 (0 - m.2, m.1) o6)) := by
  have hs : b.length < sizeLine := lt_size (by omega)
  simp only [gT, fRet, fU, fAnd, fOr, fB, f1, f2, f3, fSeq, fNext, fIfS, fIf, fC, fSet, fDrop, fItems, itemsU_b, itemsU_ls, itemsU_tup, fTup, fLst, fCons, fConsF, fNil, fCall, fCallD, fNot, fChain, fUnp, fPar, setAllU, fVar_0, fVar_s, Option.bind_some, Option.bind_none, Option.map_some, isB_bl, eqU_im, eqU_ls, eqU_bb, neU_im, neU_ls, neU_bl, ltU_num, gtU_num, leU_num, geU_num, addU_num, subU_num, negU_num, isN_tup, isN_none, notN_tup, notN_none, ims_nil, ims_im, okAl_im, okAl_bl, okAl_nil, okRt_im, okRt_bl, okRt_nil, mut_im, mut_bl, mut_ls, mut_dc, lenU_tup, lenU_ls, tupU_tup, listU_tup, listU_ls, intU_num, ixU_tup, ixU_ls, ixU_dc, cutU_c, ixc0, ixc1, ixc2, ixp0, ixp1, mkTup_2, mkTup_3, mkTup_nil, mkLst_nil, okArgs_im, okArgs_nil, atI_0, atI_1, atI_2, isi_num_int, isi_num_bool, isi_tup_tuple, isi_num_tuple, wipeU, List.set_cons_zero, List.set_cons_succ, List.length_cons, List.length_nil, List.map_cons, List.map_nil, if_true, if_false, if_pos, Bool.false_eq_true, Bool.not_true, Bool.not_false, Bool.true_or, Bool.false_or, List.isEmpty_nil, List.isEmpty_cons, Option.map_none, fLc, List.length_map, hs]
  rw [lc_cells (fun c => cD (rotC c)) b (fun c _ => ⟨_, bName_e 7 _ _, by simp only [fRet, fU, fAnd, fOr, fB, f1, f2, f3, fSeq, fNext, fIfS, fIf, fC, fSet, fDrop, fItems, itemsU_b, itemsU_ls, itemsU_tup, fTup, fLst, fCons, fConsF, fNil, fCall, fCallD, fNot, fChain, fUnp, fPar, setAllU, fVar_0, fVar_s, Option.bind_some, Option.bind_none, Option.map_some, isB_bl, eqU_im, eqU_ls, eqU_bb, neU_im, neU_ls, neU_bl, ltU_num, gtU_num, leU_num, geU_num, addU_num, subU_num, negU_num, isN_tup, isN_none, notN_tup, notN_none, ims_nil, ims_im, okAl_im, okAl_bl, okAl_nil, okRt_im, okRt_bl, okRt_nil, mut_im, mut_bl, mut_ls, mut_dc, lenU_tup, lenU_ls, tupU_tup, listU_tup, listU_ls, intU_num, ixU_tup, ixU_ls, ixU_dc, cutU_c, ixc0, ixc1, ixc2, ixp0, ixp1, mkTup_2, mkTup_3, mkTup_nil, mkLst_nil, okArgs_im, okArgs_nil, atI_0, atI_1, atI_2, isi_num_int, isi_num_bool, isi_tup_tuple, isi_num_tuple, wipeU, List.set_cons_zero, List.set_cons_succ, List.length_cons, List.length_nil, List.map_cons, List.map_nil, if_true, if_false, if_pos, Bool.false_eq_true, Bool.not_true, Bool.not_false, Bool.true_or, Bool.false_or, List.isEmpty_nil, List.isEmpty_cons, Option.map_none]; rfl⟩)]
  have e : b.map (fun c => cD (rotC c)) = (b.map rotC).map cD := by rw [List.map_map]; rfl
  rw [e]
  simp only [fRet, fU, fAnd, fOr, fB, f1, f2, f3, fSeq, fNext, fIfS, fIf, fC, fSet, fDrop, fItems, itemsU_b, itemsU_ls, itemsU_tup, fTup, fLst, fCons, fConsF, fNil, fCall, fCallD, fNot, fChain, fUnp, fPar, setAllU, fVar_0, fVar_s, Option.bind_some, Option.bind_none, Option.map_some, isB_bl, eqU_im, eqU_ls, eqU_bb, neU_im, neU_ls, neU_bl, ltU_num, gtU_num, leU_num, geU_num, addU_num, subU_num, negU_num, isN_tup, isN_none, notN_tup, notN_none, ims_nil, ims_im, okAl_im, okAl_bl, okAl_nil, okRt_im, okRt_bl, okRt_nil, mut_im, mut_bl, mut_ls, mut_dc, lenU_tup, lenU_ls, tupU_tup, listU_tup, listU_ls, intU_num, ixU_tup, ixU_ls, ixU_dc, cutU_c, ixc0, ixc1, ixc2, ixp0, ixp1, mkTup_2, mkTup_3, mkTup_nil, mkLst_nil, okArgs_im, okArgs_nil, atI_0, atI_1, atI_2, isi_num_int, isi_num_bool, isi_tup_tuple, isi_num_tuple, wipeU, List.set_cons_zero, List.set_cons_succ, List.length_cons, List.length_nil, List.map_cons, List.map_nil, if_true, if_false, if_pos, Bool.false_eq_true, Bool.not_true, Bool.not_false, Bool.true_or, Bool.false_or, List.isEmpty_nil, List.isEmpty_cons, Option.map_none, tupU_cells]
def piD (b : List Cell) (per : Int) (m : Pl) : D := .tup [bD b, .num per, pD m]
theorem mkTup_pi (b : List Cell) (per : Int) (m : Pl) : mkTup [bD b, .num per, pD m] = some (.im (piD b per m)) := mkTup_ok (fun x hd => by
  simp only [List.mem_cons, List.not_mem_nil, or_false] at hd
  have := depth_bD b
  have := depth_pD m
  rcases hd with rfl | rfl | rfl
  · omega
  · simp [NestedKey.depth]
  · omega) (by simp)
theorem E__law_turned_piece {b : List Cell} (hl : b.length ≤ 100000) (per : Int) (m : Pl) {t : Nat} (h : t < 8) : F__law_turned_piece [.im (piD b per m), .im (.num (t : Int))] = some (.im (piD (turn t b) per (turnP t m))) := by
  have hfl : (flip0 t b).length = b.length := by unfold flip0; split <;> simp
  obtain ⟨τ', h1, o6, rfl, _⟩ := loopV_rel (b := bName 6) (g := gT) (fun (k : Nat) => NestedKey.num (0 + (k : Int))) (fun (x : List Cell × Pl) τ => ∃ o6, τ = fr8 (piD b per m) t x.1 (.num per) m x.2 o6 ∧ x.1.length ≤ 100000) (fun (x : List Cell × Pl) _ => (x.1.map rotC, ((0 - x.2.2, x.2.1) : Pl))) (List.range (quart t)) (fun k _ x τ ⟨o6, e, hx⟩ => by
    subst e
    exact ⟨_, _, rfl, gT_ev _ t x.1 _ m x.2 _ hx, _, rfl, by rw [List.length_map]; exact hx⟩) (flip0 t b, flipM t m) (fr8 (piD b per m) t (flip0 t b) (.num per) m (flipM t m) none) ⟨none, rfl, by rw [hfl]; exact hl⟩
  rw [turn_rots b m h] at h1
  have e0 : g__law_turned_piece = fSeq (fUnp [2, 3, 4] (fVar 0)) (fSeq (fSet 5 ([] ++ [4]) (fIf (fB (f2 geU (fVar 1) (fC (.im (.num 4))))) (fTup (fCons (f2 subU (fC (.im (.num 0))) (f2 ixU (fVar 4) (fC (.im (.num 0))))) (fCons (f2 ixU (fVar 4) (fC (.im (.num 1)))) fNil))) (fVar 4)))
    (fSeq (fSet 2 ([] ++ [2]) (fIf (fB (f2 geU (fVar 1) (fC (.im (.num 4))))) (fCall tupU (fCons (fLc (fItems (fVar 2)) (bName 7) fYes (fTup (fCons (f2 subU (fC (.im (.num 0))) (f2 ixU (fVar 7) (fC (.im (.num 0))))) (fCons (f2 ixU (fVar 7) (fC (.im (.num 1)))) (fCons (f2 ixU (fVar 7) (fC (.im (.num 2)))) fNil)))) [7]) fNil)) (fVar 2)))
    (fSeq (fFor (fRng1 (fCons (f2 modU (fCall intU (fCons (fVar 1) fNil)) (fC (.im (.num 4)))) fNil)) (bName 6) gT)
    (fRet [] [] (fTup (fCons (fCall tupU (fCons (fCall srtTU (fCons (fVar 2) fNil)) fNil)) (fCons (fVar 3) (fCons (fVar 5) fNil)))))))) := rfl
  unfold F__law_turned_piece runG
  show (g__law_turned_piece [some (.im (piD b per m)), some (.im (.num (t : Int))), none, none, none, none, none, none]).bind _ = _
  rw [e0]
  have s1 : fUnp [2, 3, 4] (fVar 0) [some (.im (piD b per m)), some (.im (.num (t : Int))), none, none, none, none, none, none] = some (.nx [some (.im (piD b per m)), some (.im (.num (t : Int))), some (.im (bD b)), some (.im (.num per)), some (.im (pD m)), none, none, none]) := rfl
  have s2 : fSet 5 ([] ++ [4]) (fIf (fB (f2 geU (fVar 1) (fC (.im (.num 4))))) (fTup (fCons (f2 subU (fC (.im (.num 0))) (f2 ixU (fVar 4) (fC (.im (.num 0))))) (fCons (f2 ixU (fVar 4) (fC (.im (.num 1)))) fNil))) (fVar 4)) [some (.im (piD b per m)), some (.im (.num (t : Int))), some (.im (bD b)), some (.im (.num per)), some (.im (pD m)), none, none, none] = some (.nx (fr8 (piD b per m) t b (.num per) m (flipM t m) none)) := by
    unfold flipM
    by_cases q : (4 : Int) ≤ (t : Int)
    · rw [if_pos q]
      simp only [fRet, fU, fAnd, fOr, fB, f1, f2, f3, fSeq, fNext, fIfS, fIf, fC, fSet, fDrop, fItems, itemsU_b, itemsU_ls, itemsU_tup, fTup, fLst, fCons, fConsF, fNil, fCall, fCallD, fNot, fChain, fUnp, fPar, setAllU, fVar_0, fVar_s, Option.bind_some, Option.bind_none, Option.map_some, isB_bl, eqU_im, eqU_ls, eqU_bb, neU_im, neU_ls, neU_bl, ltU_num, gtU_num, leU_num, geU_num, addU_num, subU_num, negU_num, isN_tup, isN_none, notN_tup, notN_none, ims_nil, ims_im, okAl_im, okAl_bl, okAl_nil, okRt_im, okRt_bl, okRt_nil, mut_im, mut_bl, mut_ls, mut_dc, lenU_tup, lenU_ls, tupU_tup, listU_tup, listU_ls, intU_num, ixU_tup, ixU_ls, ixU_dc, cutU_c, ixc0, ixc1, ixc2, ixp0, ixp1, mkTup_2, mkTup_3, mkTup_nil, mkLst_nil, okArgs_im, okArgs_nil, atI_0, atI_1, atI_2, isi_num_int, isi_num_bool, isi_tup_tuple, isi_num_tuple, wipeU, List.set_cons_zero, List.set_cons_succ, List.length_cons, List.length_nil, List.map_cons, List.map_nil, if_true, if_false, if_pos, Bool.false_eq_true, Bool.not_true, Bool.not_false, Bool.true_or, Bool.false_or, List.isEmpty_nil, List.isEmpty_cons, Option.map_none, decide_eq_true q]
    · rw [if_neg q]
      simp only [fRet, fU, fAnd, fOr, fB, f1, f2, f3, fSeq, fNext, fIfS, fIf, fC, fSet, fDrop, fItems, itemsU_b, itemsU_ls, itemsU_tup, fTup, fLst, fCons, fConsF, fNil, fCall, fCallD, fNot, fChain, fUnp, fPar, setAllU, fVar_0, fVar_s, Option.bind_some, Option.bind_none, Option.map_some, isB_bl, eqU_im, eqU_ls, eqU_bb, neU_im, neU_ls, neU_bl, ltU_num, gtU_num, leU_num, geU_num, addU_num, subU_num, negU_num, isN_tup, isN_none, notN_tup, notN_none, ims_nil, ims_im, okAl_im, okAl_bl, okAl_nil, okRt_im, okRt_bl, okRt_nil, mut_im, mut_bl, mut_ls, mut_dc, lenU_tup, lenU_ls, tupU_tup, listU_tup, listU_ls, intU_num, ixU_tup, ixU_ls, ixU_dc, cutU_c, ixc0, ixc1, ixc2, ixp0, ixp1, mkTup_2, mkTup_3, mkTup_nil, mkLst_nil, okArgs_im, okArgs_nil, atI_0, atI_1, atI_2, isi_num_int, isi_num_bool, isi_tup_tuple, isi_num_tuple, wipeU, List.set_cons_zero, List.set_cons_succ, List.length_cons, List.length_nil, List.map_cons, List.map_nil, if_true, if_false, if_pos, Bool.false_eq_true, Bool.not_true, Bool.not_false, Bool.true_or, Bool.false_or, List.isEmpty_nil, List.isEmpty_cons, Option.map_none, decide_eq_false q]
  have s3 : fSet 2 ([] ++ [2]) (fIf (fB (f2 geU (fVar 1) (fC (.im (.num 4))))) (fCall tupU (fCons (fLc (fItems (fVar 2)) (bName 7) fYes (fTup (fCons (f2 subU (fC (.im (.num 0))) (f2 ixU (fVar 7) (fC (.im (.num 0))))) (fCons (f2 ixU (fVar 7) (fC (.im (.num 1)))) (fCons (f2 ixU (fVar 7) (fC (.im (.num 2)))) fNil)))) [7]) fNil)) (fVar 2)) (fr8 (piD b per m) t b (.num per) m (flipM t m) none) = some (.nx (fr8 (piD b per m) t (flip0 t b) (.num per) m (flipM t m) none)) := by
    unfold flip0
    by_cases q : (4 : Int) ≤ (t : Int)
    · rw [if_pos q]
      have hs : b.length < sizeLine := lt_size (by omega)
      simp only [fRet, fU, fAnd, fOr, fB, f1, f2, f3, fSeq, fNext, fIfS, fIf, fC, fSet, fDrop, fItems, itemsU_b, itemsU_ls, itemsU_tup, fTup, fLst, fCons, fConsF, fNil, fCall, fCallD, fNot, fChain, fUnp, fPar, setAllU, fVar_0, fVar_s, Option.bind_some, Option.bind_none, Option.map_some, isB_bl, eqU_im, eqU_ls, eqU_bb, neU_im, neU_ls, neU_bl, ltU_num, gtU_num, leU_num, geU_num, addU_num, subU_num, negU_num, isN_tup, isN_none, notN_tup, notN_none, ims_nil, ims_im, okAl_im, okAl_bl, okAl_nil, okRt_im, okRt_bl, okRt_nil, mut_im, mut_bl, mut_ls, mut_dc, lenU_tup, lenU_ls, tupU_tup, listU_tup, listU_ls, intU_num, ixU_tup, ixU_ls, ixU_dc, cutU_c, ixc0, ixc1, ixc2, ixp0, ixp1, mkTup_2, mkTup_3, mkTup_nil, mkLst_nil, okArgs_im, okArgs_nil, atI_0, atI_1, atI_2, isi_num_int, isi_num_bool, isi_tup_tuple, isi_num_tuple, wipeU, List.set_cons_zero, List.set_cons_succ, List.length_cons, List.length_nil, List.map_cons, List.map_nil, if_true, if_false, if_pos, Bool.false_eq_true, Bool.not_true, Bool.not_false, Bool.true_or, Bool.false_or, List.isEmpty_nil, List.isEmpty_cons, Option.map_none, decide_eq_true q, fLc, List.length_map, hs]
      rw [lc_cells (fun c => cD (flipC c)) b (fun c _ => ⟨_, bName_e 7 _ _, by simp only [fRet, fU, fAnd, fOr, fB, f1, f2, f3, fSeq, fNext, fIfS, fIf, fC, fSet, fDrop, fItems, itemsU_b, itemsU_ls, itemsU_tup, fTup, fLst, fCons, fConsF, fNil, fCall, fCallD, fNot, fChain, fUnp, fPar, setAllU, fVar_0, fVar_s, Option.bind_some, Option.bind_none, Option.map_some, isB_bl, eqU_im, eqU_ls, eqU_bb, neU_im, neU_ls, neU_bl, ltU_num, gtU_num, leU_num, geU_num, addU_num, subU_num, negU_num, isN_tup, isN_none, notN_tup, notN_none, ims_nil, ims_im, okAl_im, okAl_bl, okAl_nil, okRt_im, okRt_bl, okRt_nil, mut_im, mut_bl, mut_ls, mut_dc, lenU_tup, lenU_ls, tupU_tup, listU_tup, listU_ls, intU_num, ixU_tup, ixU_ls, ixU_dc, cutU_c, ixc0, ixc1, ixc2, ixp0, ixp1, mkTup_2, mkTup_3, mkTup_nil, mkLst_nil, okArgs_im, okArgs_nil, atI_0, atI_1, atI_2, isi_num_int, isi_num_bool, isi_tup_tuple, isi_num_tuple, wipeU, List.set_cons_zero, List.set_cons_succ, List.length_cons, List.length_nil, List.map_cons, List.map_nil, if_true, if_false, if_pos, Bool.false_eq_true, Bool.not_true, Bool.not_false, Bool.true_or, Bool.false_or, List.isEmpty_nil, List.isEmpty_cons, Option.map_none]; rfl⟩)]
      have e : b.map (fun c => cD (flipC c)) = (b.map flipC).map cD := by rw [List.map_map]; rfl
      rw [e]
      simp only [fRet, fU, fAnd, fOr, fB, f1, f2, f3, fSeq, fNext, fIfS, fIf, fC, fSet, fDrop, fItems, itemsU_b, itemsU_ls, itemsU_tup, fTup, fLst, fCons, fConsF, fNil, fCall, fCallD, fNot, fChain, fUnp, fPar, setAllU, fVar_0, fVar_s, Option.bind_some, Option.bind_none, Option.map_some, isB_bl, eqU_im, eqU_ls, eqU_bb, neU_im, neU_ls, neU_bl, ltU_num, gtU_num, leU_num, geU_num, addU_num, subU_num, negU_num, isN_tup, isN_none, notN_tup, notN_none, ims_nil, ims_im, okAl_im, okAl_bl, okAl_nil, okRt_im, okRt_bl, okRt_nil, mut_im, mut_bl, mut_ls, mut_dc, lenU_tup, lenU_ls, tupU_tup, listU_tup, listU_ls, intU_num, ixU_tup, ixU_ls, ixU_dc, cutU_c, ixc0, ixc1, ixc2, ixp0, ixp1, mkTup_2, mkTup_3, mkTup_nil, mkLst_nil, okArgs_im, okArgs_nil, atI_0, atI_1, atI_2, isi_num_int, isi_num_bool, isi_tup_tuple, isi_num_tuple, wipeU, List.set_cons_zero, List.set_cons_succ, List.length_cons, List.length_nil, List.map_cons, List.map_nil, if_true, if_false, if_pos, Bool.false_eq_true, Bool.not_true, Bool.not_false, Bool.true_or, Bool.false_or, List.isEmpty_nil, List.isEmpty_cons, Option.map_none, tupU_cells]
    · rw [if_neg q]
      simp only [fRet, fU, fAnd, fOr, fB, f1, f2, f3, fSeq, fNext, fIfS, fIf, fC, fSet, fDrop, fItems, itemsU_b, itemsU_ls, itemsU_tup, fTup, fLst, fCons, fConsF, fNil, fCall, fCallD, fNot, fChain, fUnp, fPar, setAllU, fVar_0, fVar_s, Option.bind_some, Option.bind_none, Option.map_some, isB_bl, eqU_im, eqU_ls, eqU_bb, neU_im, neU_ls, neU_bl, ltU_num, gtU_num, leU_num, geU_num, addU_num, subU_num, negU_num, isN_tup, isN_none, notN_tup, notN_none, ims_nil, ims_im, okAl_im, okAl_bl, okAl_nil, okRt_im, okRt_bl, okRt_nil, mut_im, mut_bl, mut_ls, mut_dc, lenU_tup, lenU_ls, tupU_tup, listU_tup, listU_ls, intU_num, ixU_tup, ixU_ls, ixU_dc, cutU_c, ixc0, ixc1, ixc2, ixp0, ixp1, mkTup_2, mkTup_3, mkTup_nil, mkLst_nil, okArgs_im, okArgs_nil, atI_0, atI_1, atI_2, isi_num_int, isi_num_bool, isi_tup_tuple, isi_num_tuple, wipeU, List.set_cons_zero, List.set_cons_succ, List.length_cons, List.length_nil, List.map_cons, List.map_nil, if_true, if_false, if_pos, Bool.false_eq_true, Bool.not_true, Bool.not_false, Bool.true_or, Bool.false_or, List.isEmpty_nil, List.isEmpty_cons, Option.map_none, decide_eq_false q]
  have s4 : fFor (fRng1 (fCons (f2 modU (fCall intU (fCons (fVar 1) fNil)) (fC (.im (.num 4)))) fNil)) (bName 6) gT (fr8 (piD b per m) t (flip0 t b) (.num per) m (flipM t m) none) = some (.nx (fr8 (piD b per m) t (b.map (mv t (0, 0))) (.num per) m (turnP t m) o6)) := by
    unfold fFor
    have q4 := quart_lt t
    rw [rng1_ev (k := quart t) (by omega) (by
      have hm : modU (.im (.num (t : Int))) (.im (.num 4)) = some (.im (.num ((t : Int) % 4))) := modU_num _ _ (by decide)
      simp only [fRet, fU, fAnd, fOr, fB, f1, f2, f3, fSeq, fNext, fIfS, fIf, fC, fSet, fDrop, fItems, itemsU_b, itemsU_ls, itemsU_tup, fTup, fLst, fCons, fConsF, fNil, fCall, fCallD, fNot, fChain, fUnp, fPar, setAllU, fVar_0, fVar_s, Option.bind_some, Option.bind_none, Option.map_some, isB_bl, eqU_im, eqU_ls, eqU_bb, neU_im, neU_ls, neU_bl, ltU_num, gtU_num, leU_num, geU_num, addU_num, subU_num, negU_num, isN_tup, isN_none, notN_tup, notN_none, ims_nil, ims_im, okAl_im, okAl_bl, okAl_nil, okRt_im, okRt_bl, okRt_nil, mut_im, mut_bl, mut_ls, mut_dc, lenU_tup, lenU_ls, tupU_tup, listU_tup, listU_ls, intU_num, ixU_tup, ixU_ls, ixU_dc, cutU_c, ixc0, ixc1, ixc2, ixp0, ixp1, mkTup_2, mkTup_3, mkTup_nil, mkLst_nil, okArgs_im, okArgs_nil, atI_0, atI_1, atI_2, isi_num_int, isi_num_bool, isi_tup_tuple, isi_num_tuple, wipeU, List.set_cons_zero, List.set_cons_succ, List.length_cons, List.length_nil, List.map_cons, List.map_nil, if_true, if_false, if_pos, Bool.false_eq_true, Bool.not_true, Bool.not_false, Bool.true_or, Bool.false_or, List.isEmpty_nil, List.isEmpty_cons, Option.map_none, hm]
      rw [quart_eq]), Option.bind_some]
    exact h1
  unfold fSeq
  rw [s1, Option.bind_some]
  dsimp only
  rw [s2, Option.bind_some]
  dsimp only
  rw [s3, Option.bind_some]
  dsimp only
  rw [s4, Option.bind_some]
  simp only [fRet, fU, fAnd, fOr, fB, f1, f2, f3, fSeq, fNext, fIfS, fIf, fC, fSet, fDrop, fItems, itemsU_b, itemsU_ls, itemsU_tup, fTup, fLst, fCons, fConsF, fNil, fCall, fCallD, fNot, fChain, fUnp, fPar, setAllU, fVar_0, fVar_s, Option.bind_some, Option.bind_none, Option.map_some, isB_bl, eqU_im, eqU_ls, eqU_bb, neU_im, neU_ls, neU_bl, ltU_num, gtU_num, leU_num, geU_num, addU_num, subU_num, negU_num, isN_tup, isN_none, notN_tup, notN_none, ims_nil, ims_im, okAl_im, okAl_bl, okAl_nil, okRt_im, okRt_bl, okRt_nil, mut_im, mut_bl, mut_ls, mut_dc, lenU_tup, lenU_ls, tupU_tup, listU_tup, listU_ls, intU_num, ixU_tup, ixU_ls, ixU_dc, cutU_c, ixc0, ixc1, ixc2, ixp0, ixp1, mkTup_2, mkTup_3, mkTup_nil, mkLst_nil, okArgs_im, okArgs_nil, atI_0, atI_1, atI_2, isi_num_int, isi_num_bool, isi_tup_tuple, isi_num_tuple, wipeU, List.set_cons_zero, List.set_cons_succ, List.length_cons, List.length_nil, List.map_cons, List.map_nil, if_true, if_false, if_pos, Bool.false_eq_true, Bool.not_true, Bool.not_false, Bool.true_or, Bool.false_or, List.isEmpty_nil, List.isEmpty_cons, Option.map_none, srtTU_c, tupU_cells, mkTup_pi]
  rfl
end VL

set_option Elab.async false
set_option linter.all false
set_option maxRecDepth 100000
set_option maxHeartbeats 400000
/-! VMi: rules, phases, rounds, forms. -/
namespace VL
open PySem L2 PyProof.Rows

theorem isi_nD (ns : List Int) : isiU "tuple" (.im (nD ns)) = some (.bl true) := isi_tup_tuple _
theorem isi_rD (r : Rule) : isiU "tuple" (.im (rD r)) = some (.bl true) := isi_tup_tuple _
theorem isi_bD (b : List Cell) : isiU "tuple" (.im (bD b)) = some (.bl true) := isi_tup_tuple _
theorem isi_cD (b : Cell) : isiU "tuple" (.im (cD b)) = some (.bl true) := isi_tup_tuple _
theorem isi_pD (b : Pl) : isiU "tuple" (.im (pD b)) = some (.bl true) := isi_tup_tuple _
theorem isi_piD (b : List Cell) (p : Int) (m : Pl) : isiU "tuple" (.im (piD b p m)) = some (.bl true) := isi_tup_tuple _
theorem items_nD (ns : List Int) : itemsU (.im (nD ns)) = some (ns.map .num) := rfl
theorem nums_of (ns : List Int) : numsOf (ns.map .num) = some ns := by
  induction ns with
  | nil => rfl
  | cons n ns ih => show (numsOf (ns.map .num)).map (n :: ·) = _; rw [ih]; rfl
theorem asc_len {ns : List Int} (h : ns.Pairwise (· < ·)) (hb : ∀ k ∈ ns, 0 ≤ k ∧ k ≤ 8) : ns.length ≤ 9 := by
  have nd : ns.Nodup := h.imp fun {a b} q e => by omega
  have := nodup_le (m := [0, 1, 2, 3, 4, 5, 6, 7, 8]) nd fun k hk => by
    have := hb k hk
    have : k = 0 ∨ k = 1 ∨ k = 2 ∨ k = 3 ∨ k = 4 ∨ k = 5 ∨ k = 6 ∨ k = 7 ∨ k = 8 := by omega
    simp only [List.mem_cons, List.not_mem_nil, or_false]
    exact this
  exact this
theorem E_are_counts {ns : List Int} {least : Int} (h : ns.Pairwise (· < ·)) (h0 : 0 ≤ least) (hb : ∀ k ∈ ns, least ≤ k ∧ k ≤ 8) : F_are_counts [.im (nD ns), .im (.num least)] = some (.bl true) := by
  have hl := asc_len h fun k hk => ⟨Int.le_trans h0 (hb k hk).1, (hb k hk).2⟩
  unfold F_are_counts runG
  show (g_are_counts [some (.im (nD ns)), some (.im (.num least)), none]).bind _ = _
  have hs : ns.length < sizeLine := lt_size (by omega)
  simp only [g_are_counts, fRet, fU, fAnd, fOr, fB, f1, f2, f3, fSeq, fNext, fIfS, fIf, fC, fSet, fDrop, fItems, itemsU_b, itemsU_ls, itemsU_tup, fTup, fLst, fCons, fConsF, fNil, fCall, fCallD, fNot, fChain, fUnp, fPar, setAllU, fVar_0, fVar_s, Option.bind_some, Option.bind_none, Option.map_some, isB_bl, eqU_im, eqU_ls, eqU_bb, neU_im, neU_ls, neU_bl, ltU_num, gtU_num, leU_num, geU_num, addU_num, subU_num, negU_num, isN_tup, isN_none, notN_tup, notN_none, ims_nil, ims_im, okAl_im, okAl_bl, okAl_nil, okRt_im, okRt_bl, okRt_nil, mut_im, mut_bl, mut_ls, mut_dc, lenU_tup, lenU_ls, tupU_tup, listU_tup, listU_ls, intU_num, ixU_tup, ixU_ls, ixU_dc, cutU_c, ixc0, ixc1, ixc2, ixp0, ixp1, mkTup_2, mkTup_3, mkTup_nil, mkLst_nil, okArgs_im, okArgs_nil, atI_0, atI_1, atI_2, isi_num_int, isi_num_bool, isi_tup_tuple, isi_num_tuple, wipeU, List.set_cons_zero, List.set_cons_succ, List.length_cons, List.length_nil, List.map_cons, List.map_nil, if_true, if_false, if_pos, Bool.false_eq_true, Bool.not_true, Bool.not_false, Bool.true_or, Bool.false_or, List.isEmpty_nil, List.isEmpty_cons, Option.map_none, fLc, isi_nD, items_nD, List.length_map, hs]
  have e := lcGo_map (b := bName 2) (ft := fNot (fB (fCallD F_is_in (fCons (fVar 2) (fCons (fVar 1) (fCons (fC (.im (.num 8))) fNil)))))) (fe := fVar 2) (τ := [some (.im (nD ns)), some (.im (.num least)), none]) NestedKey.num (fun k => !decide (least ≤ k ∧ k ≤ 8)) NestedKey.num ns (fun k _ => ⟨_, bName_e 2 _ _, by simp only [fRet, fU, fAnd, fOr, fB, f1, f2, f3, fSeq, fNext, fIfS, fIf, fC, fSet, fDrop, fItems, itemsU_b, itemsU_ls, itemsU_tup, fTup, fLst, fCons, fConsF, fNil, fCall, fCallD, fNot, fChain, fUnp, fPar, setAllU, fVar_0, fVar_s, Option.bind_some, Option.bind_none, Option.map_some, isB_bl, eqU_im, eqU_ls, eqU_bb, neU_im, neU_ls, neU_bl, ltU_num, gtU_num, leU_num, geU_num, addU_num, subU_num, negU_num, isN_tup, isN_none, notN_tup, notN_none, ims_nil, ims_im, okAl_im, okAl_bl, okAl_nil, okRt_im, okRt_bl, okRt_nil, mut_im, mut_bl, mut_ls, mut_dc, lenU_tup, lenU_ls, tupU_tup, listU_tup, listU_ls, intU_num, ixU_tup, ixU_ls, ixU_dc, cutU_c, ixc0, ixc1, ixc2, ixp0, ixp1, mkTup_2, mkTup_3, mkTup_nil, mkLst_nil, okArgs_im, okArgs_nil, atI_0, atI_1, atI_2, isi_num_int, isi_num_bool, isi_tup_tuple, isi_num_tuple, wipeU, List.set_cons_zero, List.set_cons_succ, List.length_cons, List.length_nil, List.map_cons, List.map_nil, if_true, if_false, if_pos, Bool.false_eq_true, Bool.not_true, Bool.not_false, Bool.true_or, Bool.false_or, List.isEmpty_nil, List.isEmpty_cons, Option.map_none, E_is_in], fun _ => rfl⟩)
  have e2 : ns.filter (fun k => !decide (least ≤ k ∧ k ≤ 8)) = [] := List.filter_eq_nil_iff.mpr fun k hk => by rw [decide_eq_true (hb k hk)]; exact Bool.false_ne_true
  rw [e2] at e
  rw [e]
  simp only [fRet, fU, fAnd, fOr, fB, f1, f2, f3, fSeq, fNext, fIfS, fIf, fC, fSet, fDrop, fItems, itemsU_b, itemsU_ls, itemsU_tup, fTup, fLst, fCons, fConsF, fNil, fCall, fCallD, fNot, fChain, fUnp, fPar, setAllU, fVar_0, fVar_s, Option.bind_some, Option.bind_none, Option.map_some, isB_bl, eqU_im, eqU_ls, eqU_bb, neU_im, neU_ls, neU_bl, ltU_num, gtU_num, leU_num, geU_num, addU_num, subU_num, negU_num, isN_tup, isN_none, notN_tup, notN_none, ims_nil, ims_im, okAl_im, okAl_bl, okAl_nil, okRt_im, okRt_bl, okRt_nil, mut_im, mut_bl, mut_ls, mut_dc, lenU_tup, lenU_ls, tupU_tup, listU_tup, listU_ls, intU_num, ixU_tup, ixU_ls, ixU_dc, cutU_c, ixc0, ixc1, ixc2, ixp0, ixp1, mkTup_2, mkTup_3, mkTup_nil, mkLst_nil, okArgs_im, okArgs_nil, atI_0, atI_1, atI_2, isi_num_int, isi_num_bool, isi_tup_tuple, isi_num_tuple, wipeU, List.set_cons_zero, List.set_cons_succ, List.length_cons, List.length_nil, List.map_cons, List.map_nil, if_true, if_false, if_pos, Bool.false_eq_true, Bool.not_true, Bool.not_false, Bool.true_or, Bool.false_or, List.isEmpty_nil, List.isEmpty_cons, Option.map_none, decide_true]
  have e3 : listU [.im (nD ns)] = some (.ls (ns.map .num)) := rfl
  have e4 : srtSetU (.im (nD ns)) = some (.ls (ns.map .num)) := by
    show (numsOf (ns.map .num)).bind _ = _
    rw [nums_of, Option.bind_some, if_pos ⟨h, by omega⟩]
  simp only [fRet, fU, fAnd, fOr, fB, f1, f2, f3, fSeq, fNext, fIfS, fIf, fC, fSet, fDrop, fItems, itemsU_b, itemsU_ls, itemsU_tup, fTup, fLst, fCons, fConsF, fNil, fCall, fCallD, fNot, fChain, fUnp, fPar, setAllU, fVar_0, fVar_s, Option.bind_some, Option.bind_none, Option.map_some, isB_bl, eqU_im, eqU_ls, eqU_bb, neU_im, neU_ls, neU_bl, ltU_num, gtU_num, leU_num, geU_num, addU_num, subU_num, negU_num, isN_tup, isN_none, notN_tup, notN_none, ims_nil, ims_im, okAl_im, okAl_bl, okAl_nil, okRt_im, okRt_bl, okRt_nil, mut_im, mut_bl, mut_ls, mut_dc, lenU_tup, lenU_ls, tupU_tup, listU_tup, listU_ls, intU_num, ixU_tup, ixU_ls, ixU_dc, cutU_c, ixc0, ixc1, ixc2, ixp0, ixp1, mkTup_2, mkTup_3, mkTup_nil, mkLst_nil, okArgs_im, okArgs_nil, atI_0, atI_1, atI_2, isi_num_int, isi_num_bool, isi_tup_tuple, isi_num_tuple, wipeU, List.set_cons_zero, List.set_cons_succ, List.length_cons, List.length_nil, List.map_cons, List.map_nil, if_true, if_false, if_pos, Bool.false_eq_true, Bool.not_true, Bool.not_false, Bool.true_or, Bool.false_or, List.isEmpty_nil, List.isEmpty_cons, Option.map_none, e3, e4, decide_true]
theorem lenU_r (r : Rule) : lenU [.im (rD r)] = some (.im (.num 3)) := rfl
theorem E_is_rule {r : Rule} (ok : r.Ok) : F_is_rule [.im (rD r)] = some (.bl true) := by
  unfold F_is_rule runG
  show (g_is_rule [some (.im (rD r))]).bind _ = _
  simp only [g_is_rule, fRet, fU, fAnd, fOr, fB, f1, f2, f3, fSeq, fNext, fIfS, fIf, fC, fSet, fDrop, fItems, itemsU_b, itemsU_ls, itemsU_tup, fTup, fLst, fCons, fConsF, fNil, fCall, fCallD, fNot, fChain, fUnp, fPar, setAllU, fVar_0, fVar_s, Option.bind_some, Option.bind_none, Option.map_some, isB_bl, eqU_im, eqU_ls, eqU_bb, neU_im, neU_ls, neU_bl, ltU_num, gtU_num, leU_num, geU_num, addU_num, subU_num, negU_num, isN_tup, isN_none, notN_tup, notN_none, ims_nil, ims_im, okAl_im, okAl_bl, okAl_nil, okRt_im, okRt_bl, okRt_nil, mut_im, mut_bl, mut_ls, mut_dc, lenU_tup, lenU_ls, tupU_tup, listU_tup, listU_ls, intU_num, ixU_tup, ixU_ls, ixU_dc, cutU_c, ixc0, ixc1, ixc2, ixp0, ixp1, mkTup_2, mkTup_3, mkTup_nil, mkLst_nil, okArgs_im, okArgs_nil, atI_0, atI_1, atI_2, isi_num_int, isi_num_bool, isi_tup_tuple, isi_num_tuple, wipeU, List.set_cons_zero, List.set_cons_succ, List.length_cons, List.length_nil, List.map_cons, List.map_nil, if_true, if_false, if_pos, Bool.false_eq_true, Bool.not_true, Bool.not_false, Bool.true_or, Bool.false_or, List.isEmpty_nil, List.isEmpty_cons, Option.map_none, isi_rD, lenU_r, num_dec, decide_true, ixr0, ixr1, ixr2, E_is_in]
  rw [E_are_counts ok.asb (by decide : (0 : Int) ≤ 1) fun k hk => ⟨by have := ok.b2 k hk; omega, (ok.b2 k hk).2⟩, E_are_counts ok.ass (Int.le_refl 0) fun k hk => ok.s0 k hk]
  simp only [fRet, fU, fAnd, fOr, fB, f1, f2, f3, fSeq, fNext, fIfS, fIf, fC, fSet, fDrop, fItems, itemsU_b, itemsU_ls, itemsU_tup, fTup, fLst, fCons, fConsF, fNil, fCall, fCallD, fNot, fChain, fUnp, fPar, setAllU, fVar_0, fVar_s, Option.bind_some, Option.bind_none, Option.map_some, isB_bl, eqU_im, eqU_ls, eqU_bb, neU_im, neU_ls, neU_bl, ltU_num, gtU_num, leU_num, geU_num, addU_num, subU_num, negU_num, isN_tup, isN_none, notN_tup, notN_none, ims_nil, ims_im, okAl_im, okAl_bl, okAl_nil, okRt_im, okRt_bl, okRt_nil, mut_im, mut_bl, mut_ls, mut_dc, lenU_tup, lenU_ls, tupU_tup, listU_tup, listU_ls, intU_num, ixU_tup, ixU_ls, ixU_dc, cutU_c, ixc0, ixc1, ixc2, ixp0, ixp1, mkTup_2, mkTup_3, mkTup_nil, mkLst_nil, okArgs_im, okArgs_nil, atI_0, atI_1, atI_2, isi_num_int, isi_num_bool, isi_tup_tuple, isi_num_tuple, wipeU, List.set_cons_zero, List.set_cons_succ, List.length_cons, List.length_nil, List.map_cons, List.map_nil, if_true, if_false, if_pos, Bool.false_eq_true, Bool.not_true, Bool.not_false, Bool.true_or, Bool.false_or, List.isEmpty_nil, List.isEmpty_cons, Option.map_none, decide_eq_true (show (2 : Int) ≤ r.n ∧ r.n ≤ 6 from ⟨ok.n2, ok.n6⟩)]
theorem E_need_rule {r : Rule} (ok : r.Ok) : F_need_rule [.im (rD r)] = some (.im .none) := by
  unfold F_need_rule runG
  show (g_need_rule [some (.im (rD r))]).bind _ = _
  simp only [g_need_rule, fRet, fU, fAnd, fOr, fB, f1, f2, f3, fSeq, fNext, fIfS, fIf, fC, fSet, fDrop, fItems, itemsU_b, itemsU_ls, itemsU_tup, fTup, fLst, fCons, fConsF, fNil, fCall, fCallD, fNot, fChain, fUnp, fPar, setAllU, fVar_0, fVar_s, Option.bind_some, Option.bind_none, Option.map_some, isB_bl, eqU_im, eqU_ls, eqU_bb, neU_im, neU_ls, neU_bl, ltU_num, gtU_num, leU_num, geU_num, addU_num, subU_num, negU_num, isN_tup, isN_none, notN_tup, notN_none, ims_nil, ims_im, okAl_im, okAl_bl, okAl_nil, okRt_im, okRt_bl, okRt_nil, mut_im, mut_bl, mut_ls, mut_dc, lenU_tup, lenU_ls, tupU_tup, listU_tup, listU_ls, intU_num, ixU_tup, ixU_ls, ixU_dc, cutU_c, ixc0, ixc1, ixc2, ixp0, ixp1, mkTup_2, mkTup_3, mkTup_nil, mkLst_nil, okArgs_im, okArgs_nil, atI_0, atI_1, atI_2, isi_num_int, isi_num_bool, isi_tup_tuple, isi_num_tuple, wipeU, List.set_cons_zero, List.set_cons_succ, List.length_cons, List.length_nil, List.map_cons, List.map_nil, if_true, if_false, if_pos, Bool.false_eq_true, Bool.not_true, Bool.not_false, Bool.true_or, Bool.false_or, List.isEmpty_nil, List.isEmpty_cons, Option.map_none, E_is_rule ok]
theorem mulU_small (a b : Int) (h : -1000 ≤ a ∧ a ≤ 1000) : mulU (.im (.num a)) (.im (.num b)) = some (.im (.num (a * b))) := by
  have e : (2 : Int) ^ 64 = 18446744073709551616 := by decide
  show (if (-(2 ^ 64) < a ∧ a < 2 ^ 64) ∨ (-(2 ^ 64) < b ∧ b < 2 ^ 64) then some (U.im (.num (a * b))) else none) = _
  rw [e, if_pos (.inl ⟨by omega, by omega⟩)]
theorem E_need_box {w h m : Int} (hw : 1 ≤ w ∧ w ≤ 12) (hh : 1 ≤ h ∧ h ≤ 12) (hm : 1 ≤ m ∧ m ≤ 12) (hp : w * h ≤ 12) : F_need_box [.im (.num w), .im (.num h), .im (.num m)] = some (.im .none) := by
  unfold F_need_box runG
  show (g_need_box [some (.im (.num w)), some (.im (.num h)), some (.im (.num m))]).bind _ = _
  have hmul := mulU_small w h ⟨by omega, by omega⟩
  simp only [g_need_box, fRet, fU, fAnd, fOr, fB, f1, f2, f3, fSeq, fNext, fIfS, fIf, fC, fSet, fDrop, fItems, itemsU_b, itemsU_ls, itemsU_tup, fTup, fLst, fCons, fConsF, fNil, fCall, fCallD, fNot, fChain, fUnp, fPar, setAllU, fVar_0, fVar_s, Option.bind_some, Option.bind_none, Option.map_some, isB_bl, eqU_im, eqU_ls, eqU_bb, neU_im, neU_ls, neU_bl, ltU_num, gtU_num, leU_num, geU_num, addU_num, subU_num, negU_num, isN_tup, isN_none, notN_tup, notN_none, ims_nil, ims_im, okAl_im, okAl_bl, okAl_nil, okRt_im, okRt_bl, okRt_nil, mut_im, mut_bl, mut_ls, mut_dc, lenU_tup, lenU_ls, tupU_tup, listU_tup, listU_ls, intU_num, ixU_tup, ixU_ls, ixU_dc, cutU_c, ixc0, ixc1, ixc2, ixp0, ixp1, mkTup_2, mkTup_3, mkTup_nil, mkLst_nil, okArgs_im, okArgs_nil, atI_0, atI_1, atI_2, isi_num_int, isi_num_bool, isi_tup_tuple, isi_num_tuple, wipeU, List.set_cons_zero, List.set_cons_succ, List.length_cons, List.length_nil, List.map_cons, List.map_nil, if_true, if_false, if_pos, Bool.false_eq_true, Bool.not_true, Bool.not_false, Bool.true_or, Bool.false_or, List.isEmpty_nil, List.isEmpty_cons, Option.map_none, E_is_in, decide_eq_true hw, decide_eq_true hh, decide_eq_true hm, hmul, decide_eq_false (show ¬ (12 : Int) < w * h by omega)]

/-! ### phases -/
def phases (r : Rule) (b : List Cell) (n : Nat) : List (List Cell) := (List.range n).map fun i => stN r i b
theorem phases_succ (r : Rule) (b : List Cell) (n : Nat) : phases r b (n + 1) = phases r b n ++ [stN r n b] := by unfold phases; rw [List.range_succ, List.map_append]; rfl
theorem ixls_last (xs : List D) (d : D) : ixU (.ls (xs ++ [d])) (.im (.num (-1))) = some (.im d) := by rw [ixU_ls, atI_last]; rfl
def gPh : Sh → Option Res := (fApp 3 (fCallD F_step_in (fCons (fVar 0) (fCons (f2 ixU (fVar 3) (f1 negU (fC (.im (.num 1))))) fNil))))
theorem E_phases_in {r : Rule} (ok : r.Ok) {b : List Cell} {n : Nat} (hn : 1 ≤ n) (hn2 : n ≤ 1000) (hL : ∀ i, i < n → Lim (stN r i b)) : F_phases_in [.im (rD r), .im (bD b), .im (.num (n : Int))] = some (.ls ((phases r b n).map bD)) := by
  obtain ⟨m, rfl⟩ : ∃ m, n = m + 1 := ⟨n - 1, by omega⟩
  obtain ⟨τ', h1, o4, k, rfl, hk⟩ := loopV_ix (b := bName 4) (g := gPh) (fun (k : Nat) => NestedKey.num (0 + (k : Int))) (fun j (k : Nat) τ => ∃ o4 k', τ = [some (.im (rD r)), some (.im (bD b)), some (.im (.num ((m + 1 : Nat) : Int))), some (.ls ((phases r b (k' + 1)).map bD)), o4] ∧ k' + j = m) (fun k _ => k) (List.range m) (fun i _ j a τ ⟨o4, k', e, hk'⟩ => by
    subst e
    refine ⟨_, _, rfl, ?_, some (.im (.num (0 + (i : Int)))), k' + 1, rfl, by omega⟩
    have e1 : (phases r b (k' + 1)).map bD = (phases r b k').map bD ++ [bD (stN r k' b)] := by rw [phases_succ, List.map_append]; rfl
    have e2 : (phases r b (k' + 1 + 1)).map bD = (phases r b (k' + 1)).map bD ++ [bD (stN r (k' + 1) b)] := by rw [phases_succ r b (k' + 1), List.map_append]; rfl
    have e3 := E_step_in ok (hL k' (by omega)) (hL (k' + 1) (by omega))
    have e4 : fCallD F_step_in (fCons (fVar 0) (fCons (f2 ixU (fVar 3) (f1 negU (fC (.im (.num 1))))) fNil)) [some (.im (rD r)), some (.im (bD b)), some (.im (.num ((m + 1 : Nat) : Int))), some (.ls ((phases r b (k' + 1)).map bD)), some (.im (.num (0 + (i : Int))))] = some (.im (bD (stN r (k' + 1) b))) := by
      rw [e1]
      simp only [fRet, fU, fAnd, fOr, fB, f1, f2, f3, fSeq, fNext, fIfS, fIf, fC, fSet, fDrop, fItems, itemsU_b, itemsU_ls, itemsU_tup, fTup, fLst, fCons, fConsF, fNil, fCall, fCallD, fNot, fChain, fUnp, fPar, setAllU, fVar_0, fVar_s, Option.bind_some, Option.bind_none, Option.map_some, isB_bl, eqU_im, eqU_ls, eqU_bb, neU_im, neU_ls, neU_bl, ltU_num, gtU_num, leU_num, geU_num, addU_num, subU_num, negU_num, isN_tup, isN_none, notN_tup, notN_none, ims_nil, ims_im, okAl_im, okAl_bl, okAl_nil, okRt_im, okRt_bl, okRt_nil, mut_im, mut_bl, mut_ls, mut_dc, lenU_tup, lenU_ls, tupU_tup, listU_tup, listU_ls, intU_num, ixU_tup, ixU_ls, ixU_dc, cutU_c, ixc0, ixc1, ixc2, ixp0, ixp1, mkTup_2, mkTup_3, mkTup_nil, mkLst_nil, okArgs_im, okArgs_nil, atI_0, atI_1, atI_2, isi_num_int, isi_num_bool, isi_tup_tuple, isi_num_tuple, wipeU, List.set_cons_zero, List.set_cons_succ, List.length_cons, List.length_nil, List.map_cons, List.map_nil, if_true, if_false, if_pos, Bool.false_eq_true, Bool.not_true, Bool.not_false, Bool.true_or, Bool.false_or, List.isEmpty_nil, List.isEmpty_cons, Option.map_none, atI_last]
      exact e3
    unfold gPh
    rw [show List.set [some (.im (rD r)), some (.im (bD b)), some (.im (.num ((m + 1 : Nat) : Int))), some (.ls ((phases r b (k' + 1)).map bD)), o4] 4 (some (.im (.num (0 + (i : Int))))) = [some (.im (rD r)), some (.im (bD b)), some (.im (.num ((m + 1 : Nat) : Int))), some (.ls ((phases r b (k' + 1)).map bD)), some (.im (.num (0 + (i : Int))))] from rfl, app_ev (ds := (phases r b (k' + 1)).map bD) (d := bD (stN r (k' + 1) b)) rfl e4 (by unfold phases; simp; omega), e2]
    rfl) 0 0 [some (.im (rD r)), some (.im (bD b)), some (.im (.num ((m + 1 : Nat) : Int))), some (.ls ((phases r b (0 + 1)).map bD)), none] ⟨none, 0, rfl, by simp⟩
  have hk : k = m := by omega
  subst hk
  unfold F_phases_in runG
  show (g_phases_in [some (.im (rD r)), some (.im (bD b)), some (.im (.num ((k + 1 : Nat) : Int))), none, none]).bind _ = _
  have e0 : g_phases_in = fSeq (fSet 3 [] (fLst (fCons (fVar 1) fNil))) (fSeq (fFor (fRng1 (fCons (f2 subU (fVar 2) (fC (.im (.num 1)))) fNil)) (bName 4) gPh) (fRet [3] [3] (fVar 3))) := rfl
  have s1 : fSet 3 [] (fLst (fCons (fVar 1) fNil)) [some (.im (rD r)), some (.im (bD b)), some (.im (.num ((k + 1 : Nat) : Int))), none, none] = some (.nx [some (.im (rD r)), some (.im (bD b)), some (.im (.num ((k + 1 : Nat) : Int))), some (.ls ((phases r b (0 + 1)).map bD)), none]) := by
    simp only [fRet, fU, fAnd, fOr, fB, f1, f2, f3, fSeq, fNext, fIfS, fIf, fC, fSet, fDrop, fItems, itemsU_b, itemsU_ls, itemsU_tup, fTup, fLst, fCons, fConsF, fNil, fCall, fCallD, fNot, fChain, fUnp, fPar, setAllU, fVar_0, fVar_s, Option.bind_some, Option.bind_none, Option.map_some, isB_bl, eqU_im, eqU_ls, eqU_bb, neU_im, neU_ls, neU_bl, ltU_num, gtU_num, leU_num, geU_num, addU_num, subU_num, negU_num, isN_tup, isN_none, notN_tup, notN_none, ims_nil, ims_im, okAl_im, okAl_bl, okAl_nil, okRt_im, okRt_bl, okRt_nil, mut_im, mut_bl, mut_ls, mut_dc, lenU_tup, lenU_ls, tupU_tup, listU_tup, listU_ls, intU_num, ixU_tup, ixU_ls, ixU_dc, cutU_c, ixc0, ixc1, ixc2, ixp0, ixp1, mkTup_2, mkTup_3, mkTup_nil, mkLst_nil, okArgs_im, okArgs_nil, atI_0, atI_1, atI_2, isi_num_int, isi_num_bool, isi_tup_tuple, isi_num_tuple, wipeU, List.set_cons_zero, List.set_cons_succ, List.length_cons, List.length_nil, List.map_cons, List.map_nil, if_true, if_false, if_pos, Bool.false_eq_true, Bool.not_true, Bool.not_false, Bool.true_or, Bool.false_or, List.isEmpty_nil, List.isEmpty_cons, Option.map_none]
    rw [mkLst_ok (by simp)]
    rfl
  have s2 : fFor (fRng1 (fCons (f2 subU (fVar 2) (fC (.im (.num 1)))) fNil)) (bName 4) gPh [some (.im (rD r)), some (.im (bD b)), some (.im (.num ((k + 1 : Nat) : Int))), some (.ls ((phases r b (0 + 1)).map bD)), none] = some (.nx [some (.im (rD r)), some (.im (bD b)), some (.im (.num ((k + 1 : Nat) : Int))), some (.ls ((phases r b (k + 1)).map bD)), o4]) := by
    unfold fFor
    rw [rng1_ev (k := k) (by omega) (by
      simp only [fRet, fU, fAnd, fOr, fB, f1, f2, f3, fSeq, fNext, fIfS, fIf, fC, fSet, fDrop, fItems, itemsU_b, itemsU_ls, itemsU_tup, fTup, fLst, fCons, fConsF, fNil, fCall, fCallD, fNot, fChain, fUnp, fPar, setAllU, fVar_0, fVar_s, Option.bind_some, Option.bind_none, Option.map_some, isB_bl, eqU_im, eqU_ls, eqU_bb, neU_im, neU_ls, neU_bl, ltU_num, gtU_num, leU_num, geU_num, addU_num, subU_num, negU_num, isN_tup, isN_none, notN_tup, notN_none, ims_nil, ims_im, okAl_im, okAl_bl, okAl_nil, okRt_im, okRt_bl, okRt_nil, mut_im, mut_bl, mut_ls, mut_dc, lenU_tup, lenU_ls, tupU_tup, listU_tup, listU_ls, intU_num, ixU_tup, ixU_ls, ixU_dc, cutU_c, ixc0, ixc1, ixc2, ixp0, ixp1, mkTup_2, mkTup_3, mkTup_nil, mkLst_nil, okArgs_im, okArgs_nil, atI_0, atI_1, atI_2, isi_num_int, isi_num_bool, isi_tup_tuple, isi_num_tuple, wipeU, List.set_cons_zero, List.set_cons_succ, List.length_cons, List.length_nil, List.map_cons, List.map_nil, if_true, if_false, if_pos, Bool.false_eq_true, Bool.not_true, Bool.not_false, Bool.true_or, Bool.false_or, List.isEmpty_nil, List.isEmpty_cons, Option.map_none]
      congr 4
      omega), Option.bind_some]
    exact h1
  rw [e0]
  unfold fSeq
  rw [s1, Option.bind_some]
  dsimp only
  rw [s2, Option.bind_some]
  rfl
end VL

set_option Elab.async false
set_option linter.all false
set_option maxRecDepth 100000
set_option maxHeartbeats 400000
/-! VMj: round_in, form_in. -/
namespace VL
open PySem L2 PyProof.Rows

theorem bD_dec (a b : List Cell) : decide (bD a = bD b) = decide (a = b) := by
  by_cases h : a = b
  · rw [decide_eq_true h, decide_eq_true (by rw [h])]
  · rw [decide_eq_false h, decide_eq_false fun z => h (bD_inj z)]
def rnd (r : Rule) (b : List Cell) : Nat → Nat → Option (Nat × Pl)
  | 0, _ => none
  | n + 1, k => if norm (stN r (k + 1) b) = norm b then some (k + 1, (minx (stN r (k + 1) b) - minx b, miny (stN r (k + 1) b) - miny b)) else rnd r b n (k + 1)
def tmD (t : Nat) (m : Pl) : D := .tup [.num (t : Int), pD m]
def roundD : Option (Nat × Pl) → D
  | none => .none
  | some (t, m) => tmD t m
theorem mkTup_np (t : Int) (m : Pl) : mkTup [.num t, pD m] = some (.im (.tup [.num t, pD m])) := mkTup_ok (fun x hd => by
  simp only [List.mem_cons, List.not_mem_nil, or_false] at hd
  have := depth_pD m
  rcases hd with rfl | rfl
  · simp [NestedKey.depth]
  · omega) (by simp)
def gRd : Sh → Option Res := (fSeq (fSet 5 [] (fCallD F_step_in (fCons (fVar 0) (fCons (fVar 5) fNil))))
    (fIfS (fB (f2 eqU (fCall lenU (fCons (fVar 5) fNil)) (fCall lenU (fCons (fVar 1) fNil)))) (fSeq (fUnp [7, 8] (fCallD F_normal_in (fCons (fVar 5) fNil)))
    (fIfS (fB (f2 eqU (fVar 7) (fVar 3))) (fRet [] [] (fTup (fCons (fVar 6) (fCons (fTup (fCons (f2 subU (f2 ixU (fVar 8) (fC (.im (.num 0)))) (f2 ixU (fVar 4) (fC (.im (.num 0))))) (fCons (f2 subU (f2 ixU (fVar 8) (fC (.im (.num 1)))) (f2 ixU (fVar 4) (fC (.im (.num 1))))) fNil))) fNil)))) fNext)) fNext))
abbrev fr9r (r : Rule) (b : List Cell) (most : Int) (h : List Cell) (o6 o7 o8 : Option U) : Sh := [some (.im (rD r)), some (.im (bD b)), some (.im (.num most)), some (.im (bD (norm b))), some (.im (pD (corner b))), some (.im (bD h)), o6, o7, o8]
theorem gRd_ev {r : Rule} (ok : r.Ok) {b h : List Cell} (L1 : Lim h) (L2 : Lim (step r h)) (most : Int) (t : Int) (o7 o8 : Option U) :
    (norm (step r h) = norm b → gRd (fr9r r b most h (some (.im (.num t))) o7 o8) = some (.rt (.im (.tup [.num t, pD (minx (step r h) - minx b, miny (step r h) - miny b)])))) ∧
    (norm (step r h) ≠ norm b → ∃ o7' o8', gRd (fr9r r b most h (some (.im (.num t))) o7 o8) = some (.nx (fr9r r b most (step r h) (some (.im (.num t))) o7' o8'))) := by
  have e1 := E_step_in ok L1 L2
  have l2 := L2.len
  have e2 := E_normal_in L2.good.is (by omega : (step r h).length ≤ 100000)
  constructor
  · intro hn
    have hl : (step r h).length = b.length := by rw [← norm_len (step r h), hn, norm_len]
    simp only [gRd, fRet, fU, fAnd, fOr, fB, f1, f2, f3, fSeq, fNext, fIfS, fIf, fC, fSet, fDrop, fItems, itemsU_b, itemsU_ls, itemsU_tup, fTup, fLst, fCons, fConsF, fNil, fCall, fCallD, fNot, fChain, fUnp, fPar, setAllU, fVar_0, fVar_s, Option.bind_some, Option.bind_none, Option.map_some, isB_bl, eqU_im, eqU_ls, eqU_bb, neU_im, neU_ls, neU_bl, ltU_num, gtU_num, leU_num, geU_num, addU_num, subU_num, negU_num, isN_tup, isN_none, notN_tup, notN_none, ims_nil, ims_im, okAl_im, okAl_bl, okAl_nil, okRt_im, okRt_bl, okRt_nil, mut_im, mut_bl, mut_ls, mut_dc, lenU_tup, lenU_ls, tupU_tup, listU_tup, listU_ls, intU_num, ixU_tup, ixU_ls, ixU_dc, cutU_c, ixc0, ixc1, ixc2, ixp0, ixp1, mkTup_2, mkTup_3, mkTup_nil, mkLst_nil, okArgs_im, okArgs_nil, atI_0, atI_1, atI_2, isi_num_int, isi_num_bool, isi_tup_tuple, isi_num_tuple, wipeU, List.set_cons_zero, List.set_cons_succ, List.length_cons, List.length_nil, List.map_cons, List.map_nil, if_true, if_false, if_pos, Bool.false_eq_true, Bool.not_true, Bool.not_false, Bool.true_or, Bool.false_or, List.isEmpty_nil, List.isEmpty_cons, Option.map_none, e1, lenU_b, num_dec, hl, decide_true, e2, nrD, bD_dec, hn]
    simp only [mkTup_np, fRet, fU, fAnd, fOr, fB, f1, f2, f3, fSeq, fNext, fIfS, fIf, fC, fSet, fDrop, fItems, itemsU_b, itemsU_ls, itemsU_tup, fTup, fLst, fCons, fConsF, fNil, fCall, fCallD, fNot, fChain, fUnp, fPar, setAllU, fVar_0, fVar_s, Option.bind_some, Option.bind_none, Option.map_some, isB_bl, eqU_im, eqU_ls, eqU_bb, neU_im, neU_ls, neU_bl, ltU_num, gtU_num, leU_num, geU_num, addU_num, subU_num, negU_num, isN_tup, isN_none, notN_tup, notN_none, ims_nil, ims_im, okAl_im, okAl_bl, okAl_nil, okRt_im, okRt_bl, okRt_nil, mut_im, mut_bl, mut_ls, mut_dc, lenU_tup, lenU_ls, tupU_tup, listU_tup, listU_ls, intU_num, ixU_tup, ixU_ls, ixU_dc, cutU_c, ixc0, ixc1, ixc2, ixp0, ixp1, mkTup_2, mkTup_3, mkTup_nil, mkLst_nil, okArgs_im, okArgs_nil, atI_0, atI_1, atI_2, isi_num_int, isi_num_bool, isi_tup_tuple, isi_num_tuple, wipeU, List.set_cons_zero, List.set_cons_succ, List.length_cons, List.length_nil, List.map_cons, List.map_nil, if_true, if_false, if_pos, Bool.false_eq_true, Bool.not_true, Bool.not_false, Bool.true_or, Bool.false_or, List.isEmpty_nil, List.isEmpty_cons, Option.map_none]
    rfl
  · intro hn
    by_cases hl : ((step r h).length : Int) = (b.length : Int)
    · refine ⟨some (.im (bD (norm (step r h)))), some (.im (pD (corner (step r h)))), ?_⟩
      simp only [gRd, fRet, fU, fAnd, fOr, fB, f1, f2, f3, fSeq, fNext, fIfS, fIf, fC, fSet, fDrop, fItems, itemsU_b, itemsU_ls, itemsU_tup, fTup, fLst, fCons, fConsF, fNil, fCall, fCallD, fNot, fChain, fUnp, fPar, setAllU, fVar_0, fVar_s, Option.bind_some, Option.bind_none, Option.map_some, isB_bl, eqU_im, eqU_ls, eqU_bb, neU_im, neU_ls, neU_bl, ltU_num, gtU_num, leU_num, geU_num, addU_num, subU_num, negU_num, isN_tup, isN_none, notN_tup, notN_none, ims_nil, ims_im, okAl_im, okAl_bl, okAl_nil, okRt_im, okRt_bl, okRt_nil, mut_im, mut_bl, mut_ls, mut_dc, lenU_tup, lenU_ls, tupU_tup, listU_tup, listU_ls, intU_num, ixU_tup, ixU_ls, ixU_dc, cutU_c, ixc0, ixc1, ixc2, ixp0, ixp1, mkTup_2, mkTup_3, mkTup_nil, mkLst_nil, okArgs_im, okArgs_nil, atI_0, atI_1, atI_2, isi_num_int, isi_num_bool, isi_tup_tuple, isi_num_tuple, wipeU, List.set_cons_zero, List.set_cons_succ, List.length_cons, List.length_nil, List.map_cons, List.map_nil, if_true, if_false, if_pos, Bool.false_eq_true, Bool.not_true, Bool.not_false, Bool.true_or, Bool.false_or, List.isEmpty_nil, List.isEmpty_cons, Option.map_none, e1, lenU_b, num_dec, decide_eq_true hl, e2, nrD, bD_dec, decide_eq_false hn]
    · refine ⟨o7, o8, ?_⟩
      simp only [gRd, fRet, fU, fAnd, fOr, fB, f1, f2, f3, fSeq, fNext, fIfS, fIf, fC, fSet, fDrop, fItems, itemsU_b, itemsU_ls, itemsU_tup, fTup, fLst, fCons, fConsF, fNil, fCall, fCallD, fNot, fChain, fUnp, fPar, setAllU, fVar_0, fVar_s, Option.bind_some, Option.bind_none, Option.map_some, isB_bl, eqU_im, eqU_ls, eqU_bb, neU_im, neU_ls, neU_bl, ltU_num, gtU_num, leU_num, geU_num, addU_num, subU_num, negU_num, isN_tup, isN_none, notN_tup, notN_none, ims_nil, ims_im, okAl_im, okAl_bl, okAl_nil, okRt_im, okRt_bl, okRt_nil, mut_im, mut_bl, mut_ls, mut_dc, lenU_tup, lenU_ls, tupU_tup, listU_tup, listU_ls, intU_num, ixU_tup, ixU_ls, ixU_dc, cutU_c, ixc0, ixc1, ixc2, ixp0, ixp1, mkTup_2, mkTup_3, mkTup_nil, mkLst_nil, okArgs_im, okArgs_nil, atI_0, atI_1, atI_2, isi_num_int, isi_num_bool, isi_tup_tuple, isi_num_tuple, wipeU, List.set_cons_zero, List.set_cons_succ, List.length_cons, List.length_nil, List.map_cons, List.map_nil, if_true, if_false, if_pos, Bool.false_eq_true, Bool.not_true, Bool.not_false, Bool.true_or, Bool.false_or, List.isEmpty_nil, List.isEmpty_cons, Option.map_none, e1, lenU_b, num_dec, decide_eq_false hl]
theorem rnd_loop {r : Rule} (ok : r.Ok) {b : List Cell} {most : Nat} (hL : ∀ i, i ≤ most → Lim (stN r i b)) : ∀ (n k : Nat) (o6 o7 o8 : Option U), k + n ≤ most →
    ∃ res, loopV (bName 6) gRd ((List.range' k n).map fun (j : Nat) => NestedKey.num (1 + (j : Int))) (fr9r r b most (stN r k b) o6 o7 o8) = some res ∧ (match rnd r b n k with | none => ∃ τ', res = .nx τ' | some (t, m) => res = .rt (.im (tmD t m)))
  | 0, k, o6, o7, o8, h => ⟨_, rfl, _, rfl⟩
  | n + 1, k, o6, o7, o8, h => by
    obtain ⟨g1, g2⟩ := gRd_ev ok (b := b) (hL k (by omega)) (hL (k + 1) (by omega)) most (1 + (k : Int)) o7 o8
    have e0 : loopV (bName 6) gRd ((List.range' k (n + 1)).map fun (j : Nat) => NestedKey.num (1 + (j : Int))) (fr9r r b most (stN r k b) o6 o7 o8) = ((gRd (fr9r r b most (stN r k b) (some (.im (.num (1 + (k : Int))))) o7 o8)).bind fun r' => match r' with
      | .nx τ' => loopV (bName 6) gRd ((List.range' (k + 1) n).map fun (j : Nat) => NestedKey.num (1 + (j : Int))) τ'
      | .rt u => some (.rt u)) := by rw [List.range'_succ, List.map_cons]; rfl
    rw [e0]
    unfold rnd
    by_cases hn : norm (stN r (k + 1) b) = norm b
    · rw [if_pos hn, g1 hn, Option.bind_some]
      refine ⟨_, rfl, ?_⟩
      show Res.rt (.im (.tup [.num (1 + (k : Int)), pD (minx (stN r (k + 1) b) - minx b, miny (stN r (k + 1) b) - miny b)])) = Res.rt (.im (.tup [.num ((k + 1 : Nat) : Int), pD (minx (stN r (k + 1) b) - minx b, miny (stN r (k + 1) b) - miny b)]))
      rw [show (1 + (k : Int)) = ((k + 1 : Nat) : Int) from by omega]
    · rw [if_neg hn]
      obtain ⟨o7', o8', g3⟩ := g2 hn
      rw [g3, Option.bind_some]
      exact rnd_loop ok hL n (k + 1) _ o7' o8' (by omega)
theorem rng2_ev {fa : Sh → Option (List U)} {τ : Sh} {k : Nat} (hk : k < 1000000) (h : fa τ = some [.im (.num 1), .im (.num ((k : Int) + 1))]) : fRng2 fa τ = some (rngD 1 k) := by
  unfold fRng2
  rw [h, Option.bind_some]
  have e : (2 : Int) ^ 62 = 4611686018427387904 := by decide
  show (if -(2 ^ 62) ≤ (1 : Int) ∧ (1 : Int) < 2 ^ 62 ∧ -(2 ^ 62) ≤ (k : Int) + 1 ∧ (k : Int) + 1 < 2 ^ 62 then some (rngD 1 ((k : Int) + 1 - 1).toNat) else none) = _
  rw [e, if_pos ⟨by omega, by omega, by omega, by omega⟩]
  congr 2
  omega
theorem E_round_in {r : Rule} (ok : r.Ok) {b : List Cell} {most : Nat} (hm : most < 1000) (hL : ∀ i, i ≤ most → Lim (stN r i b)) : F_round_in [.im (rD r), .im (bD b), .im (.num (most : Int))] = some (.im (roundD (rnd r b most 0))) := by
  have L0 := hL 0 (Nat.zero_le _)
  have l0 := L0.len
  have l0 : b.length ≤ 3000 := l0
  obtain ⟨res, h1, h2⟩ := rnd_loop ok hL most 0 none none none (by omega)
  have e0 : g_round_in = fSeq (fUnp [3, 4] (fCallD F_normal_in (fCons (fVar 1) fNil))) (fSeq (fSet 5 [1] (fVar 1)) (fSeq (fFor (fRng2 (fCons (fC (.im (.num 1))) (fCons (f2 addU (fVar 2) (fC (.im (.num 1)))) fNil))) (bName 6) gRd) (fRet [] [] (fC (.im .none))))) := rfl
  have s1 : fUnp [3, 4] (fCallD F_normal_in (fCons (fVar 1) fNil)) [some (.im (rD r)), some (.im (bD b)), some (.im (.num (most : Int))), none, none, none, none, none, none] = some (.nx [some (.im (rD r)), some (.im (bD b)), some (.im (.num (most : Int))), some (.im (bD (norm b))), some (.im (pD (corner b))), none, none, none, none]) := by
    simp only [fRet, fU, fAnd, fOr, fB, f1, f2, f3, fSeq, fNext, fIfS, fIf, fC, fSet, fDrop, fItems, itemsU_b, itemsU_ls, itemsU_tup, fTup, fLst, fCons, fConsF, fNil, fCall, fCallD, fNot, fChain, fUnp, fPar, setAllU, fVar_0, fVar_s, Option.bind_some, Option.bind_none, Option.map_some, isB_bl, eqU_im, eqU_ls, eqU_bb, neU_im, neU_ls, neU_bl, ltU_num, gtU_num, leU_num, geU_num, addU_num, subU_num, negU_num, isN_tup, isN_none, notN_tup, notN_none, ims_nil, ims_im, okAl_im, okAl_bl, okAl_nil, okRt_im, okRt_bl, okRt_nil, mut_im, mut_bl, mut_ls, mut_dc, lenU_tup, lenU_ls, tupU_tup, listU_tup, listU_ls, intU_num, ixU_tup, ixU_ls, ixU_dc, cutU_c, ixc0, ixc1, ixc2, ixp0, ixp1, mkTup_2, mkTup_3, mkTup_nil, mkLst_nil, okArgs_im, okArgs_nil, atI_0, atI_1, atI_2, isi_num_int, isi_num_bool, isi_tup_tuple, isi_num_tuple, wipeU, List.set_cons_zero, List.set_cons_succ, List.length_cons, List.length_nil, List.map_cons, List.map_nil, if_true, if_false, if_pos, Bool.false_eq_true, Bool.not_true, Bool.not_false, Bool.true_or, Bool.false_or, List.isEmpty_nil, List.isEmpty_cons, Option.map_none, E_normal_in L0.good.is (by omega : b.length ≤ 100000), nrD]
    rw [show F_normal_in [.im (bD b)] = some (.im (nrD b)) from E_normal_in L0.good.is (by omega : b.length ≤ 100000)]
    rfl
  have s3 : fFor (fRng2 (fCons (fC (.im (.num 1))) (fCons (f2 addU (fVar 2) (fC (.im (.num 1)))) fNil))) (bName 6) gRd (fr9r r b most b none none none) = some res := by
    unfold fFor
    rw [rng2_ev (k := most) (by omega) (by simp only [fRet, fU, fAnd, fOr, fB, f1, f2, f3, fSeq, fNext, fIfS, fIf, fC, fSet, fDrop, fItems, itemsU_b, itemsU_ls, itemsU_tup, fTup, fLst, fCons, fConsF, fNil, fCall, fCallD, fNot, fChain, fUnp, fPar, setAllU, fVar_0, fVar_s, Option.bind_some, Option.bind_none, Option.map_some, isB_bl, eqU_im, eqU_ls, eqU_bb, neU_im, neU_ls, neU_bl, ltU_num, gtU_num, leU_num, geU_num, addU_num, subU_num, negU_num, isN_tup, isN_none, notN_tup, notN_none, ims_nil, ims_im, okAl_im, okAl_bl, okAl_nil, okRt_im, okRt_bl, okRt_nil, mut_im, mut_bl, mut_ls, mut_dc, lenU_tup, lenU_ls, tupU_tup, listU_tup, listU_ls, intU_num, ixU_tup, ixU_ls, ixU_dc, cutU_c, ixc0, ixc1, ixc2, ixp0, ixp1, mkTup_2, mkTup_3, mkTup_nil, mkLst_nil, okArgs_im, okArgs_nil, atI_0, atI_1, atI_2, isi_num_int, isi_num_bool, isi_tup_tuple, isi_num_tuple, wipeU, List.set_cons_zero, List.set_cons_succ, List.length_cons, List.length_nil, List.map_cons, List.map_nil, if_true, if_false, if_pos, Bool.false_eq_true, Bool.not_true, Bool.not_false, Bool.true_or, Bool.false_or, List.isEmpty_nil, List.isEmpty_cons, Option.map_none]), Option.bind_some]
    unfold rngD
    rw [List.range_eq_range']
    exact h1
  unfold F_round_in runG
  show (g_round_in [some (.im (rD r)), some (.im (bD b)), some (.im (.num (most : Int))), none, none, none, none, none, none]).bind _ = _
  rw [e0]
  unfold fSeq
  rw [s1, Option.bind_some]
  dsimp only
  rw [show fSet 5 [1] (fVar 1) [some (.im (rD r)), some (.im (bD b)), some (.im (.num (most : Int))), some (.im (bD (norm b))), some (.im (pD (corner b))), none, none, none, none] = some (.nx (fr9r r b most b none none none)) from rfl, Option.bind_some]
  dsimp only
  rw [s3, Option.bind_some]
  cases q : rnd r b most 0 with
  | none =>
    rw [q] at h2
    obtain ⟨τ', rfl⟩ := h2
    rfl
  | some x =>
    obtain ⟨t, m⟩ := x
    rw [q] at h2
    have h2 : res = .rt (.im (tmD t m)) := h2
    subst h2
    rfl

/-! ### forms -/
def forms1 (b : List Cell) (l : List (List Cell)) : List (List Cell) := (List.range 8).foldl (fun l t => l ++ [norm (turn t b)]) l
def formsL (ps : List (List Cell)) : List (List Cell) := ps.foldl (fun l b => forms1 b l) []
def gF1 : Sh → Option Res := (fApp 2 (f2 ixU (fCallD F_normal_in (fCons (fCallD F_turned_in (fCons (fVar 3) (fCons (fVar 4) fNil))) fNil)) (fC (.im (.num 0)))))
theorem nr0 (b : List Cell) : ixU (.im (nrD b)) (.im (.num 0)) = some (.im (bD (norm b))) := (ixU_tup _ _).trans (by rw [atI_0]; rfl)
theorem nr1 (b : List Cell) : ixU (.im (nrD b)) (.im (.num 1)) = some (.im (pD (corner b))) := (ixU_tup _ _).trans (by rw [atI_1]; rfl)
theorem gF1_loop {u0 u1 : U} {b : List Cell} (hb : Good b) (hl : b.length ≤ 3000) (C : Nat) (hC : C ≤ 1000000) (l : List (List Cell)) (o4 : Option U) (k : Nat) (h : l.length + (8 + k) ≤ C) : ∃ o4', fFor (fRng1 (fCons (fC (.im (.num 8))) fNil)) (bName 4) gF1 [some u0, some u1, some (.ls (l.map bD)), some (.im (bD b)), o4] = some (.nx [some u0, some u1, some (.ls ((forms1 b l).map bD)), some (.im (bD b)), o4']) ∧ (forms1 b l).length + k ≤ C := by
  obtain ⟨τ', h1, o4', rfl, h2⟩ := loopV_ix (b := bName 4) (g := gF1) (fun (t : Nat) => NestedKey.num (0 + (t : Int))) (fun n (l : List (List Cell)) τ => ∃ o4, τ = [some u0, some u1, some (.ls (l.map bD)), some (.im (bD b)), o4] ∧ l.length + n ≤ C) (fun l t => l ++ [norm (turn t b)]) (List.range 8) (fun t ht n l τ ⟨o4, e, hl'⟩ => by
    subst e
    have h8 := List.mem_range.mp ht
    have e1 := E_turned_in (b := b) (by omega) h8
    have e2 := E_normal_in (turn_mv t hb).good.is (by rw [turn_len]; omega : (turn t b).length ≤ 100000)
    refine ⟨_, _, rfl, ?_, some (.im (.num (0 + (t : Int)))), rfl, by rw [List.length_append]; show l.length + 1 + n ≤ C; omega⟩
    unfold gF1
    rw [app_ev (i := 2) (ds := l.map bD) (d := bD (norm (turn t b))) rfl (by
      rw [show (0 : Int) + (t : Int) = (t : Int) from by omega]
      show (f2 ixU (fCallD F_normal_in (fCons (fCallD F_turned_in (fCons (fVar 3) (fCons (fVar 4) fNil))) fNil)) (fC (.im (.num 0)))) [some u0, some u1, some (.ls (l.map bD)), some (.im (bD b)), some (.im (.num (t : Int)))] = _
      simp only [fRet, fU, fAnd, fOr, fB, f1, f2, f3, fSeq, fNext, fIfS, fIf, fC, fSet, fDrop, fItems, itemsU_b, itemsU_ls, itemsU_tup, fTup, fLst, fCons, fConsF, fNil, fCall, fCallD, fNot, fChain, fUnp, fPar, setAllU, fVar_0, fVar_s, Option.bind_some, Option.bind_none, Option.map_some, isB_bl, eqU_im, eqU_ls, eqU_bb, neU_im, neU_ls, neU_bl, ltU_num, gtU_num, leU_num, geU_num, addU_num, subU_num, negU_num, isN_tup, isN_none, notN_tup, notN_none, ims_nil, ims_im, okAl_im, okAl_bl, okAl_nil, okRt_im, okRt_bl, okRt_nil, mut_im, mut_bl, mut_ls, mut_dc, lenU_tup, lenU_ls, tupU_tup, listU_tup, listU_ls, intU_num, ixU_tup, ixU_ls, ixU_dc, cutU_c, ixc0, ixc1, ixc2, ixp0, ixp1, mkTup_2, mkTup_3, mkTup_nil, mkLst_nil, okArgs_im, okArgs_nil, atI_0, atI_1, atI_2, isi_num_int, isi_num_bool, isi_tup_tuple, isi_num_tuple, wipeU, List.set_cons_zero, List.set_cons_succ, List.length_cons, List.length_nil, List.map_cons, List.map_nil, if_true, if_false, if_pos, Bool.false_eq_true, Bool.not_true, Bool.not_false, Bool.true_or, Bool.false_or, List.isEmpty_nil, List.isEmpty_cons, Option.map_none, e1, e2, nr0]) (by rw [List.length_map]; omega), List.map_append]
    rfl) k l [some u0, some u1, some (.ls (l.map bD)), some (.im (bD b)), o4] ⟨o4, rfl, by rw [List.length_range]; exact h⟩
  refine ⟨o4', ?_, h2⟩
  unfold fFor
  rw [rng1_ev (k := 8) (by omega) (by simp only [fRet, fU, fAnd, fOr, fB, f1, f2, f3, fSeq, fNext, fIfS, fIf, fC, fSet, fDrop, fItems, itemsU_b, itemsU_ls, itemsU_tup, fTup, fLst, fCons, fConsF, fNil, fCall, fCallD, fNot, fChain, fUnp, fPar, setAllU, fVar_0, fVar_s, Option.bind_some, Option.bind_none, Option.map_some, isB_bl, eqU_im, eqU_ls, eqU_bb, neU_im, neU_ls, neU_bl, ltU_num, gtU_num, leU_num, geU_num, addU_num, subU_num, negU_num, isN_tup, isN_none, notN_tup, notN_none, ims_nil, ims_im, okAl_im, okAl_bl, okAl_nil, okRt_im, okRt_bl, okRt_nil, mut_im, mut_bl, mut_ls, mut_dc, lenU_tup, lenU_ls, tupU_tup, listU_tup, listU_ls, intU_num, ixU_tup, ixU_ls, ixU_dc, cutU_c, ixc0, ixc1, ixc2, ixp0, ixp1, mkTup_2, mkTup_3, mkTup_nil, mkLst_nil, okArgs_im, okArgs_nil, atI_0, atI_1, atI_2, isi_num_int, isi_num_bool, isi_tup_tuple, isi_num_tuple, wipeU, List.set_cons_zero, List.set_cons_succ, List.length_cons, List.length_nil, List.map_cons, List.map_nil, if_true, if_false, if_pos, Bool.false_eq_true, Bool.not_true, Bool.not_false, Bool.true_or, Bool.false_or, List.isEmpty_nil, List.isEmpty_cons, Option.map_none]; rfl), Option.bind_some]
  exact h1
theorem allAl_b (l : List (List Cell)) : AllAl (l.map bD) := ⟨fun x hx y hy => by
  obtain ⟨a, _, rfl⟩ := List.mem_map.mp hx
  obtain ⟨b, _, rfl⟩ := List.mem_map.mp hy
  exact alD_bD a b, fun x hx => by
  obtain ⟨a, _, rfl⟩ := List.mem_map.mp hx
  rfl⟩
def minB (l : List (List Cell)) : D := match l.map bD with
  | [] => .none
  | d :: ds => minDD d ds
theorem minU_b {l : List (List Cell)} (h : l ≠ []) : minU [.ls (l.map bD)] = some (.im (minB l)) := by
  unfold minB
  cases e : l.map bD with
  | nil => exact absurd (List.map_eq_nil_iff.mp e) h
  | cons d ds =>
    show (if AllAl (d :: ds) then some (U.im (minDD d ds)) else none) = _
    rw [if_pos (by rw [← e]; exact allAl_b l)]
theorem minB_mem {l : List (List Cell)} (h : l ≠ []) : ∃ f ∈ l, minB l = bD f := by
  unfold minB
  cases e : l.map bD with
  | nil => exact absurd (List.map_eq_nil_iff.mp e) h
  | cons d ds =>
    have q := min_mem ds d
    rw [← e] at q
    obtain ⟨f, hf, e2⟩ := List.mem_map.mp q
    exact ⟨f, hf, e2.symm⟩
theorem forms1_eq (b : List Cell) (l : List (List Cell)) : forms1 b l = l ++ (List.range 8).map fun t => norm (turn t b) := by
  unfold forms1
  have : ∀ (ts : List Nat) (l : List (List Cell)), ts.foldl (fun l t => l ++ [norm (turn t b)]) l = l ++ ts.map fun t => norm (turn t b) := by
    intro ts
    induction ts with
    | nil => intro l; simp
    | cons t ts ih => intro l; rw [List.foldl_cons, ih, List.map_cons]; simp
  exact this _ _
theorem formsL_eq (ps : List (List Cell)) : formsL ps = ps.flatMap fun b => (List.range 8).map fun t => norm (turn t b) := by
  have : ∀ (ps : List (List Cell)) (l : List (List Cell)), ps.foldl (fun l b => forms1 b l) l = l ++ ps.flatMap fun b => (List.range 8).map fun t => norm (turn t b) := by
    intro ps
    induction ps with
    | nil => intro l; simp
    | cons b ps ih => intro l; rw [List.foldl_cons, ih, forms1_eq, List.flatMap_cons, List.append_assoc]
  unfold formsL
  rw [this, List.nil_append]
theorem formsL_mem {ps : List (List Cell)} {f : List Cell} : f ∈ formsL ps ↔ ∃ b ∈ ps, ∃ t, t < 8 ∧ f = norm (turn t b) := by
  rw [formsL_eq, List.mem_flatMap]
  constructor
  · rintro ⟨b, hb, h⟩
    obtain ⟨t, ht, e⟩ := List.mem_map.mp h
    exact ⟨b, hb, t, List.mem_range.mp ht, e.symm⟩
  · rintro ⟨b, hb, t, ht, e⟩
    exact ⟨b, hb, List.mem_map.mpr ⟨t, List.mem_range.mpr ht, e.symm⟩⟩
theorem formsL_ne {ps : List (List Cell)} (h : ps ≠ []) : formsL ps ≠ [] := by
  cases ps with
  | nil => exact absurd rfl h
  | cons b ps =>
    have : norm (turn 0 b) ∈ formsL (b :: ps) := formsL_mem.mpr ⟨b, List.mem_cons_self, 0, by omega, rfl⟩
    intro z
    rw [z] at this
    simp at this
theorem pi0 (b : List Cell) (p : Int) (m : Pl) : ixU (.im (piD b p m)) (.im (.num 0)) = some (.im (bD b)) := (ixU_tup _ _).trans (by rw [atI_0]; rfl)
theorem pi1 (b : List Cell) (p : Int) (m : Pl) : ixU (.im (piD b p m)) (.im (.num 1)) = some (.im (.num p)) := (ixU_tup _ _).trans (by rw [atI_1]; rfl)
theorem pi2 (b : List Cell) (p : Int) (m : Pl) : ixU (.im (piD b p m)) (.im (.num 2)) = some (.im (pD m)) := (ixU_tup _ _).trans (by rw [atI_2]; rfl)
theorem E_form_in {r : Rule} (ok : r.Ok) {b : List Cell} {n : Nat} (m : Pl) (hn : 1 ≤ n) (hn2 : n ≤ 1000) (hL : ∀ i, i < n → Lim (stN r i b)) : F_form_in [.im (rD r), .im (piD b (n : Int) m)] = some (.im (minB (formsL (phases r b n)))) := by
  have hlen : (phases r b n).length = n := by unfold phases; simp
  obtain ⟨τ', h1, o3, o4, rfl, _⟩ := loopV_ix (b := bName 3) (g := fFor (fRng1 (fCons (fC (.im (.num 8))) fNil)) (bName 4) gF1) bD (fun k (l : List (List Cell)) τ => ∃ o3 o4, τ = [some (.im (rD r)), some (.im (piD b (n : Int) m)), some (.ls (l.map bD)), o3, o4] ∧ l.length + 8 * k ≤ 8 * n) (fun l b => forms1 b l) (phases r b n) (fun c hc k l τ ⟨o3, o4, e, hl⟩ => by
    subst e
    obtain ⟨i, hi, rfl⟩ := List.mem_map.mp hc
    have L := hL i (List.mem_range.mp hi)
    obtain ⟨o4', e1, e2⟩ := gF1_loop (u0 := .im (rD r)) (u1 := .im (piD b (n : Int) m)) L.good L.len (8 * n) (by omega) l o4 (8 * k) (by omega)
    exact ⟨_, _, rfl, e1, some (.im (bD (stN r i b))), o4', rfl, e2⟩) 0 [] [some (.im (rD r)), some (.im (piD b (n : Int) m)), some (.ls (([] : List (List Cell)).map bD)), none, none] ⟨none, none, rfl, by rw [hlen]; simp⟩
  unfold F_form_in runG
  show (g_form_in [some (.im (rD r)), some (.im (piD b (n : Int) m)), none, none, none]).bind _ = _
  have e0 : g_form_in = fSeq (fSet 2 [] (fLst fNil)) (fSeq (fFor (fItems (fCallD F_phases_in (fCons (fVar 0) (fCons (f2 ixU (fVar 1) (fC (.im (.num 0)))) (fCons (f2 ixU (fVar 1) (fC (.im (.num 1)))) fNil))))) (bName 3) (fFor (fRng1 (fCons (fC (.im (.num 8))) fNil)) (bName 4) gF1)) (fRet [2] [] (fCall minU (fCons (fVar 2) fNil)))) := rfl
  have s2 : fFor (fItems (fCallD F_phases_in (fCons (fVar 0) (fCons (f2 ixU (fVar 1) (fC (.im (.num 0)))) (fCons (f2 ixU (fVar 1) (fC (.im (.num 1)))) fNil))))) (bName 3) (fFor (fRng1 (fCons (fC (.im (.num 8))) fNil)) (bName 4) gF1) [some (.im (rD r)), some (.im (piD b (n : Int) m)), some (.ls (([] : List (List Cell)).map bD)), none, none] = some (.nx [some (.im (rD r)), some (.im (piD b (n : Int) m)), some (.ls ((formsL (phases r b n)).map bD)), o3, o4]) := by
    unfold fFor at h1 ⊢
    rw [show fItems (fCallD F_phases_in (fCons (fVar 0) (fCons (f2 ixU (fVar 1) (fC (.im (.num 0)))) (fCons (f2 ixU (fVar 1) (fC (.im (.num 1)))) fNil)))) [some (.im (rD r)), some (.im (piD b (n : Int) m)), some (.ls (([] : List (List Cell)).map bD)), none, none] = some ((phases r b n).map bD) from by
      simp only [fRet, fU, fAnd, fOr, fB, f1, f2, f3, fSeq, fNext, fIfS, fIf, fC, fSet, fDrop, fItems, itemsU_b, itemsU_ls, itemsU_tup, fTup, fLst, fCons, fConsF, fNil, fCall, fCallD, fNot, fChain, fUnp, fPar, setAllU, fVar_0, fVar_s, Option.bind_some, Option.bind_none, Option.map_some, isB_bl, eqU_im, eqU_ls, eqU_bb, neU_im, neU_ls, neU_bl, ltU_num, gtU_num, leU_num, geU_num, addU_num, subU_num, negU_num, isN_tup, isN_none, notN_tup, notN_none, ims_nil, ims_im, okAl_im, okAl_bl, okAl_nil, okRt_im, okRt_bl, okRt_nil, mut_im, mut_bl, mut_ls, mut_dc, lenU_tup, lenU_ls, tupU_tup, listU_tup, listU_ls, intU_num, ixU_tup, ixU_ls, ixU_dc, cutU_c, ixc0, ixc1, ixc2, ixp0, ixp1, mkTup_2, mkTup_3, mkTup_nil, mkLst_nil, okArgs_im, okArgs_nil, atI_0, atI_1, atI_2, isi_num_int, isi_num_bool, isi_tup_tuple, isi_num_tuple, wipeU, List.set_cons_zero, List.set_cons_succ, List.length_cons, List.length_nil, List.map_cons, List.map_nil, if_true, if_false, if_pos, Bool.false_eq_true, Bool.not_true, Bool.not_false, Bool.true_or, Bool.false_or, List.isEmpty_nil, List.isEmpty_cons, Option.map_none, pi0, pi1, E_phases_in ok hn hn2 hL], Option.bind_some]
    exact h1
  rw [e0]
  unfold fSeq
  rw [show fSet 2 [] (fLst fNil) [some (.im (rD r)), some (.im (piD b (n : Int) m)), none, none, none] = some (.nx [some (.im (rD r)), some (.im (piD b (n : Int) m)), some (.ls (([] : List (List Cell)).map bD)), none, none]) from by simp only [fRet, fU, fAnd, fOr, fB, f1, f2, f3, fSeq, fNext, fIfS, fIf, fC, fSet, fDrop, fItems, itemsU_b, itemsU_ls, itemsU_tup, fTup, fLst, fCons, fConsF, fNil, fCall, fCallD, fNot, fChain, fUnp, fPar, setAllU, fVar_0, fVar_s, Option.bind_some, Option.bind_none, Option.map_some, isB_bl, eqU_im, eqU_ls, eqU_bb, neU_im, neU_ls, neU_bl, ltU_num, gtU_num, leU_num, geU_num, addU_num, subU_num, negU_num, isN_tup, isN_none, notN_tup, notN_none, ims_nil, ims_im, okAl_im, okAl_bl, okAl_nil, okRt_im, okRt_bl, okRt_nil, mut_im, mut_bl, mut_ls, mut_dc, lenU_tup, lenU_ls, tupU_tup, listU_tup, listU_ls, intU_num, ixU_tup, ixU_ls, ixU_dc, cutU_c, ixc0, ixc1, ixc2, ixp0, ixp1, mkTup_2, mkTup_3, mkTup_nil, mkLst_nil, okArgs_im, okArgs_nil, atI_0, atI_1, atI_2, isi_num_int, isi_num_bool, isi_tup_tuple, isi_num_tuple, wipeU, List.set_cons_zero, List.set_cons_succ, List.length_cons, List.length_nil, List.map_cons, List.map_nil, if_true, if_false, if_pos, Bool.false_eq_true, Bool.not_true, Bool.not_false, Bool.true_or, Bool.false_or, List.isEmpty_nil, List.isEmpty_cons, Option.map_none], Option.bind_some]
  dsimp only
  rw [s2, Option.bind_some]
  have hne : phases r b n ≠ [] := by intro z; rw [z] at hlen; simp at hlen; omega
  simp only [fRet, fU, fAnd, fOr, fB, f1, f2, f3, fSeq, fNext, fIfS, fIf, fC, fSet, fDrop, fItems, itemsU_b, itemsU_ls, itemsU_tup, fTup, fLst, fCons, fConsF, fNil, fCall, fCallD, fNot, fChain, fUnp, fPar, setAllU, fVar_0, fVar_s, Option.bind_some, Option.bind_none, Option.map_some, isB_bl, eqU_im, eqU_ls, eqU_bb, neU_im, neU_ls, neU_bl, ltU_num, gtU_num, leU_num, geU_num, addU_num, subU_num, negU_num, isN_tup, isN_none, notN_tup, notN_none, ims_nil, ims_im, okAl_im, okAl_bl, okAl_nil, okRt_im, okRt_bl, okRt_nil, mut_im, mut_bl, mut_ls, mut_dc, lenU_tup, lenU_ls, tupU_tup, listU_tup, listU_ls, intU_num, ixU_tup, ixU_ls, ixU_dc, cutU_c, ixc0, ixc1, ixc2, ixp0, ixp1, mkTup_2, mkTup_3, mkTup_nil, mkLst_nil, okArgs_im, okArgs_nil, atI_0, atI_1, atI_2, isi_num_int, isi_num_bool, isi_tup_tuple, isi_num_tuple, wipeU, List.set_cons_zero, List.set_cons_succ, List.length_cons, List.length_nil, List.map_cons, List.map_nil, if_true, if_false, if_pos, Bool.false_eq_true, Bool.not_true, Bool.not_false, Bool.true_or, Bool.false_or, List.isEmpty_nil, List.isEmpty_cons, Option.map_none, minU_b (formsL_ne hne)]
end VL

set_option Elab.async false
set_option linter.all false
set_option maxRecDepth 100000
set_option maxHeartbeats 400000
/-! VMk: the boards of a box. -/
namespace VL
open PySem L2 PyProof.Rows

theorem lc2Go_map {ι : Type} {b b1 : D → Sh → Option Sh} {fi1 : Sh → Option (List D)} {fe : Sh → Option U} {vs1 : List Nat} {τ : Sh} (e : ι → D) (out : ι → List D) : ∀ (is : List ι), (∀ i ∈ is, ∃ τ1 es, b (e i) τ = some τ1 ∧ fi1 τ1 = some es ∧ lcGo b1 fYes fe (wipeU τ1 vs1) es = some (out i)) →
    lc2Go b fYes fi1 b1 fYes fe vs1 τ (is.map e) = some (is.flatMap out)
  | [], _ => rfl
  | i :: is, hs => by
    obtain ⟨τ1, es, h1, h2, h3⟩ := hs i List.mem_cons_self
    have ih := lc2Go_map (b := b) (b1 := b1) (fi1 := fi1) (fe := fe) (vs1 := vs1) (τ := τ) e out is fun j hj => hs j (List.mem_cons_of_mem _ hj)
    show ((b (e i) τ).bind fun τ1 => (fYes τ1).bind fun c => if c = true then (fi1 τ1).bind fun es => (lcGo b1 fYes fe (wipeU τ1 vs1) es).bind fun ys => (lc2Go b fYes fi1 b1 fYes fe vs1 τ (is.map e)).map (ys ++ ·)
    else lc2Go b fYes fi1 b1 fYes fe vs1 τ (is.map e)) = _
    rw [h1, Option.bind_some, show fYes τ1 = some true from rfl, Option.bind_some, if_pos rfl, h2, Option.bind_some, h3, Option.bind_some, ih, Option.map_some, List.flatMap_cons]
def bit (N : Int) (k : Nat) : Bool := decide (Builtin.bitAnd (N / 2 ^ k) 1 = 1)
abbrev gr (w h : Nat) : List Pl := grid 0 0 w h
def nth (ps : List Pl) (k : Nat) : Pl := ps.getD k (0, 0)
theorem range_nth (ps : List Pl) : (List.range ps.length).map (nth ps) = ps := by
  refine List.ext_getElem? fun i => ?_
  rw [List.getElem?_map]
  by_cases h : i < ps.length
  · rw [List.getElem?_range h, List.getElem?_eq_getElem h]
    simp [nth, List.getD_eq_getElem?_getD, List.getElem?_eq_getElem h]
  · rw [List.getElem?_eq_none (by simpa using h), List.getElem?_eq_none (by simpa using h)]
    rfl
def mkC (p : Pl) : Cell := (p.1, p.2, 1)
def sel (ps : List Pl) (N : Int) : List Cell := ((List.range ps.length).filter (bit N)).map fun k => mkC (nth ps k)
theorem sel_is {ps : List Pl} (h : ps.Pairwise plt) (N : Int) : IsB (sel ps N) := by
  have h2 : ((List.range ps.length).map (nth ps)).Pairwise plt := by rw [range_nth]; exact h
  rw [List.pairwise_map] at h2
  unfold IsB sel
  rw [List.pairwise_map]
  exact (List.Pairwise.filter (bit N) h2).imp fun {a b} q => q
theorem sel_good {ps : List Pl} (h : ps.Pairwise plt) (N : Int) : Good (sel ps N) := ⟨sel_is h N, fun c hc => by
  obtain ⟨k, _, rfl⟩ := List.mem_map.mp hc
  exact Int.le_refl 1⟩
theorem sel_len (ps : List Pl) (N : Int) : (sel ps N).length ≤ ps.length := by
  unfold sel
  rw [List.length_map]
  exact Nat.le_trans (List.length_filter_le _ _) (by rw [List.length_range]; exact Nat.le_refl _)
theorem sel_in {ps : List Pl} {N : Int} {c : Cell} (hc : c ∈ sel ps N) : pl c ∈ ps ∧ c.2.2 = 1 := by
  obtain ⟨k, hk, rfl⟩ := List.mem_map.mp hc
  have hk := List.mem_range.mp (List.mem_filter.mp hk).1
  refine ⟨?_, rfl⟩
  show (nth ps k) ∈ ps
  unfold nth
  rw [List.getD_eq_getElem?_getD, List.getElem?_eq_getElem hk]
  exact List.getElem_mem hk
theorem bit_some : ∀ n ∈ List.range 7, ∀ j ∈ List.range (2 ^ n - 1), ((List.range n).any fun k => bit (1 + (j : Int)) k) = true := by decide +kernel
theorem sel_ne {ps : List Pl} (hn : ps.length ≤ 6) {j : Nat} (hj : j < 2 ^ ps.length - 1) : sel ps (1 + (j : Int)) ≠ [] := by
  have h := bit_some ps.length (List.mem_range.mpr (by omega)) j (List.mem_range.mpr hj)
  obtain ⟨k, hk, hb⟩ := List.any_eq_true.mp h
  intro z
  have : mkC (nth ps k) ∈ sel ps (1 + (j : Int)) := List.mem_map.mpr ⟨k, List.mem_filter.mpr ⟨hk, hb⟩, rfl⟩
  rw [z] at this
  simp at this
def fits (w h : Nat) (b : List Cell) : Bool := decide (minx b = 0 ∧ miny b = 0 ∧ maxx b = (w : Int) - 1 ∧ maxy b = (h : Int) - 1)
def keepB (w h : Nat) (l : List (List Cell)) (j : Nat) : List (List Cell) := if fits w h (sel (gr w h) (1 + (j : Int))) = true then l ++ [sel (gr w h) (1 + (j : Int))] else l
def boxB (w h : Nat) : List (List Cell) := (List.range (2 ^ (w * h) - 1)).foldl (keepB w h) []
theorem keepB_len (w h : Nat) (l : List (List Cell)) (j : Nat) : (keepB w h l j).length ≤ l.length + 1 := by
  unfold keepB
  split
  · rw [List.length_append]; exact Nat.le_refl _
  · omega
theorem boxB_mem {w h : Nat} : ∀ (js : List Nat) (l : List (List Cell)) (b : List Cell), b ∈ js.foldl (keepB w h) l → b ∈ l ∨ ∃ j ∈ js, b = sel (gr w h) (1 + (j : Int)) ∧ fits w h b = true
  | [], l, b, hb => .inl hb
  | j :: js, l, b, hb => by
    rcases boxB_mem js _ b hb with q | ⟨i, hi, q⟩
    · unfold keepB at q
      split at q
      · rename_i hf
        rcases List.mem_append.mp q with q | q
        · exact .inl q
        · rw [List.mem_singleton] at q
          subst q
          exact .inr ⟨j, List.mem_cons_self, rfl, hf⟩
      · exact .inl q
    · exact .inr ⟨i, List.mem_cons_of_mem _ hi, q⟩
/-- numbers -/
theorem shl_ev (n : Nat) (hn : n ≤ 6) : shlU (.im (.num 1)) (.im (.num (n : Int))) = some (.im (.num ((2 ^ n : Nat) : Int))) := by
  have e : (2 : Int) ^ 64 = 18446744073709551616 := by decide
  show (if 0 ≤ (n : Int) ∧ (n : Int) ≤ 1000000 ∧ (1 : Int).natAbs < 2 ^ 64 then some (U.im (.num (1 * 2 ^ (n : Int).toNat))) else none) = _
  rw [if_pos ⟨by omega, by omega, by decide⟩, Int.toNat_natCast, Int.one_mul]
  congr 3
theorem bit_ev (N : Int) (k : Nat) : (((shrU (.im (.num N)) (.im (.num (k : Int)))).bind fun x => bandU x (.im (.num 1))).bind fun y => eqU y (.im (.num 1))) = some (.bl (bit N k)) := by
  rw [show shrU (.im (.num N)) (.im (.num (k : Int))) = (if 0 ≤ (k : Int) then some (U.im (.num (N / 2 ^ (k : Int).toNat))) else none) from rfl, if_pos (by omega), Int.toNat_natCast, Option.bind_some]
  rw [show bandU (.im (.num (N / 2 ^ k))) (.im (.num 1)) = some (U.im (.num (Builtin.bitAnd (N / 2 ^ k) 1))) from rfl, Option.bind_some, eqU_im, num_dec]
  rfl
theorem rng2_to {fa : Sh → Option (List U)} {τ : Sh} {M : Nat} (h0 : 1 ≤ M) (hM : M < 1000000) (h : fa τ = some [.im (.num 1), .im (.num (M : Int))]) : fRng2 fa τ = some (rngD 1 (M - 1)) := by
  have e : ((M : Nat) : Int) = ((M - 1 : Nat) : Int) + 1 := by omega
  rw [e] at h
  exact rng2_ev (by omega) h
theorem enum_range (f : Nat → D) (n : Nat) : ∀ s, enumD s ((List.range' s n).map f) = (List.range' s n).map fun (k : Nat) => NestedKey.tup [.num (k : Int), f k] := by
  induction n with
  | zero => intro s; rfl
  | succ n ih =>
    intro s
    rw [List.range'_succ, List.map_cons, List.map_cons]
    show NestedKey.tup [.num (s : Int), f s] :: enumD (s + 1) _ = _
    rw [ih (s + 1)]
theorem enum_nth (ps : List Pl) : enumD 0 (ps.map pD) = (List.range ps.length).map fun (k : Nat) => NestedKey.tup [.num (k : Int), pD (nth ps k)] := by
  have e : ps.map pD = (List.range' 0 ps.length).map fun k => pD (nth ps k) := by
    conv => lhs; rw [← range_nth ps]
    rw [List.map_map, List.range_eq_range']
    rfl
  rw [e, enum_range, ← List.range_eq_range']
abbrev fr12 (w h : Nat) (found : List (List Cell)) (o4 o5 o6 o7 o8 : Option U) : Sh := [some (.im (.num (w : Int))), some (.im (.num (h : Int))), some (.ls ((gr w h).map pD)), some (.ls (found.map bD)), o4, o5, o6, o7, o8, none, none, none]
theorem depthAll_p (ps : List Pl) : NestedKey.depthAll (ps.map pD) ≤ 7 := depthAll_le fun d hd => by
  obtain ⟨p, _, rfl⟩ := List.mem_map.mp hd
  have := depth_pD p
  omega
theorem cells_ev {w h : Nat} (hn : w * h ≤ 6) (found : List (List Cell)) (N : Int) (o5 o6 : Option U) : fDc (fEnum (fVar 2)) (bTup [9, 10]) (fB (f2 eqU (f2 bandU (f2 shrU (fVar 4) (fVar 9)) (fC (.im (.num 1)))) (fC (.im (.num 1))))) (fVar 10) (fC (.im (.num 1))) [9, 10] (fr12 w h found (some (.im (.num N))) o5 o6 none none) = some (.dc (dK (sel (gr w h) N))) := by
  have hlen : (gr w h).length = w * h := grid_len 0 0 w h
  have e1 : fEnum (fVar 2) (fr12 w h found (some (.im (.num N))) o5 o6 none none) = some ((List.range (gr w h).length).map fun (k : Nat) => NestedKey.tup [.num (k : Int), pD (nth (gr w h) k)]) := by
    show (if NestedKey.depthAll ((gr w h).map pD) ≤ 7 then some (enumD 0 ((gr w h).map pD)) else none) = _
    rw [if_pos (depthAll_p _), enum_nth]
  unfold fDc
  rw [e1, Option.bind_some, if_pos (lt_size (by rw [List.length_map, List.length_range]; omega))]
  have e2 := dcGo_map (b := bTup [9, 10]) (ft := fB (f2 eqU (f2 bandU (f2 shrU (fVar 4) (fVar 9)) (fC (.im (.num 1)))) (fC (.im (.num 1))))) (fk := fVar 10) (fe := fC (.im (.num 1))) (τ := fr12 w h found (some (.im (.num N))) o5 o6 none none) (fun (k : Nat) => NestedKey.tup [.num (k : Int), pD (nth (gr w h) k)]) (bit N) (fun k => [.num (nth (gr w h) k).1, .num (nth (gr w h) k).2]) (fun _ => .num 1) (List.range (gr w h).length) [] (fun k _ => ⟨_, rfl, by
    show ((((shrU (.im (.num N)) (.im (.num (k : Int)))).bind fun x => bandU x (.im (.num 1))).bind fun y => eqU y (.im (.num 1))).bind isB) = _
    rw [bit_ev N k]
    rfl, fun _ => ⟨rfl, rfl⟩⟩)
  have e3 : wipeU (fr12 w h found (some (.im (.num N))) o5 o6 none none) [9, 10] = fr12 w h found (some (.im (.num N))) o5 o6 none none := rfl
  rw [e3, e2, Option.map_some]
  have nd : (((List.range (gr w h).length).filter (bit N)).map fun k => pD (nth (gr w h) k)).Nodup := by
    have q := pD_nodup (places_nodup (sel_is (rise_grid 0 0 w h) N))
    unfold sel at q
    rw [List.map_map, List.map_map] at q
    exact q
  have e4 := fold_sto (fun k : Nat => pD (nth (gr w h) k)) (fun _ => W.k (.num 1)) ((List.range (gr w h).length).filter (bit N)) [] nd (fun _ _ => by simp)
  rw [List.nil_append] at e4
  have e5 : dK (sel (gr w h) N) = ((List.range (gr w h).length).filter (bit N)).map fun k => (pD (nth (gr w h) k), W.k (.num 1)) := by
    unfold dK sel
    rw [List.map_map]
    rfl
  rw [e5]
  exact congrArg (fun x => some (U.dc x)) e4
theorem rise_self {b : List Cell} (h : Good b) : rise b = b := (rise_good h.dk).is.ext h.is fun c => rise_mem h.dk c
end VL

set_option Elab.async false
set_option linter.all false
set_option maxRecDepth 100000
set_option maxHeartbeats 400000
/-! VMl: boards_in and the law's box boards evaluated. -/
namespace VL
open PySem L2 PyProof.Rows

theorem b4 {a b c d : Bool} : (if (if a = true then some b else some false) = some true then 1 else 2) = (if (a && b) = true then 1 else 2) := by cases a <;> cases b <;> rfl
theorem lc_f {τ : Sh} (f : Cell → D) {e : Sh → Option U} (b : List Cell) (h : ∀ c, e (τ.set 11 (some (.im (cD c)))) = some (.im (f c))) : lcGo (bName 11) fYes e τ (b.map cD) = some (b.map f) := lc_cells f b fun c _ => ⟨_, bName_e 11 _ _, h c⟩
def gBx : Sh → Option Res := (fSeq (fSet 5 [] (fDc (fEnum (fVar 2)) (bTup [9, 10]) (fB (f2 eqU (f2 bandU (f2 shrU (fVar 4) (fVar 9)) (fC (.im (.num 1)))) (fC (.im (.num 1))))) (fVar 10) (fC (.im (.num 1))) [9, 10]))
    (fSeq (fSet 6 [] (fCallD F_board_of (fCons (fVar 5) fNil)))
    (fIfS (fAnd (fB (f2 eqU (fCall maxU (fCons (fLc (fItems (fVar 6)) (bName 11) fYes (f2 ixU (fVar 11) (fC (.im (.num 0)))) [11]) fNil)) (f2 subU (fVar 0) (fC (.im (.num 1)))))) (fB (f2 eqU (fCall maxU (fCons (fLc (fItems (fVar 6)) (bName 11) fYes (f2 ixU (fVar 11) (fC (.im (.num 1)))) [11]) fNil)) (f2 subU (fVar 1) (fC (.im (.num 1))))))) (fIfS (fAnd (fB (f2 eqU (fCall minU (fCons (fLc (fItems (fVar 6)) (bName 11) fYes (f2 ixU (fVar 11) (fC (.im (.num 0)))) [11]) fNil)) (fC (.im (.num 0))))) (fB (f2 eqU (fCall minU (fCons (fLc (fItems (fVar 6)) (bName 11) fYes (f2 ixU (fVar 11) (fC (.im (.num 1)))) [11]) fNil)) (fC (.im (.num 0)))))) (fApp 3 (fVar 6)) fNext) fNext)))
theorem fits_dec (w h : Nat) (b : List Cell) : fits w h b = ((decide (maxx b = (w : Int) - 1) && decide (maxy b = (h : Int) - 1)) && (decide (minx b = 0) && decide (miny b = 0))) := by
  unfold fits
  by_cases h1 : minx b = 0 <;> by_cases h2 : miny b = 0 <;> by_cases h3 : maxx b = (w : Int) - 1 <;> by_cases h4 : maxy b = (h : Int) - 1 <;> simp [h1, h2, h3, h4]
def gBt : Sh → Option Res := (fIfS (fAnd (fB (f2 eqU (fCall maxU (fCons (fLc (fItems (fVar 6)) (bName 11) fYes (f2 ixU (fVar 11) (fC (.im (.num 0)))) [11]) fNil)) (f2 subU (fVar 0) (fC (.im (.num 1)))))) (fB (f2 eqU (fCall maxU (fCons (fLc (fItems (fVar 6)) (bName 11) fYes (f2 ixU (fVar 11) (fC (.im (.num 1)))) [11]) fNil)) (f2 subU (fVar 1) (fC (.im (.num 1))))))) (fIfS (fAnd (fB (f2 eqU (fCall minU (fCons (fLc (fItems (fVar 6)) (bName 11) fYes (f2 ixU (fVar 11) (fC (.im (.num 0)))) [11]) fNil)) (fC (.im (.num 0))))) (fB (f2 eqU (fCall minU (fCons (fLc (fItems (fVar 6)) (bName 11) fYes (f2 ixU (fVar 11) (fC (.im (.num 1)))) [11]) fNil)) (fC (.im (.num 0)))))) (fApp 3 (fVar 6)) fNext) fNext)
theorem gBt_ev (w h : Nat) (b : List Cell) (hne : b ≠ []) (hl : b.length ≤ 1000) (found : List (List Cell)) (hf : found.length ≤ 1000) (o4 o5 : Option U) : gBt (fr12 w h found o4 o5 (some (.im (bD b))) none none) = some (.nx (fr12 w h (if fits w h b = true then found ++ [b] else found) o4 o5 (some (.im (bD b))) none none)) := by
  have hs : b.length < sizeLine := lt_size (by omega)
  have mx : maxU [.ls (b.map fun c => .num c.1)] = some (.im (.num (maxx b))) := maxU_f hne
  have my : maxU [.ls (b.map fun c => .num c.2.1)] = some (.im (.num (maxy b))) := maxU_f hne
  have nx : minU [.ls (b.map fun c => .num c.1)] = some (.im (.num (minx b))) := minU_f hne
  have ny : minU [.ls (b.map fun c => .num c.2.1)] = some (.im (.num (miny b))) := minU_f hne
  simp only [gBt, fRet, fU, fAnd, fOr, fB, f1, f2, f3, fSeq, fNext, fIfS, fIf, fC, fSet, fDrop, fItems, itemsU_b, itemsU_ls, itemsU_tup, fTup, fLst, fCons, fConsF, fNil, fCall, fCallD, fNot, fChain, fUnp, fPar, setAllU, fVar_0, fVar_s, Option.bind_some, Option.bind_none, Option.map_some, isB_bl, eqU_im, eqU_ls, eqU_bb, neU_im, neU_ls, neU_bl, ltU_num, gtU_num, leU_num, geU_num, addU_num, subU_num, negU_num, isN_tup, isN_none, notN_tup, notN_none, ims_nil, ims_im, okAl_im, okAl_bl, okAl_nil, okRt_im, okRt_bl, okRt_nil, mut_im, mut_bl, mut_ls, mut_dc, lenU_tup, lenU_ls, tupU_tup, listU_tup, listU_ls, intU_num, ixU_tup, ixU_ls, ixU_dc, cutU_c, ixc0, ixc1, ixc2, ixp0, ixp1, mkTup_2, mkTup_3, mkTup_nil, mkLst_nil, okArgs_im, okArgs_nil, atI_0, atI_1, atI_2, isi_num_int, isi_num_bool, isi_tup_tuple, isi_num_tuple, wipeU, List.set_cons_zero, List.set_cons_succ, List.length_cons, List.length_nil, List.map_cons, List.map_nil, if_true, if_false, if_pos, Bool.false_eq_true, Bool.not_true, Bool.not_false, Bool.true_or, Bool.false_or, List.isEmpty_nil, List.isEmpty_cons, Option.map_none, fLc, List.length_map, hs]
  rw [lc_x (i := 11) (j := 0) (τ' := []) b (fun c => rfl), lc_y (i := 11) (j := 0) (τ' := []) b (fun c => rfl)]
  simp only [fRet, fU, fAnd, fOr, fB, f1, f2, f3, fSeq, fNext, fIfS, fIf, fC, fSet, fDrop, fItems, itemsU_b, itemsU_ls, itemsU_tup, fTup, fLst, fCons, fConsF, fNil, fCall, fCallD, fNot, fChain, fUnp, fPar, setAllU, fVar_0, fVar_s, Option.bind_some, Option.bind_none, Option.map_some, isB_bl, eqU_im, eqU_ls, eqU_bb, neU_im, neU_ls, neU_bl, ltU_num, gtU_num, leU_num, geU_num, addU_num, subU_num, negU_num, isN_tup, isN_none, notN_tup, notN_none, ims_nil, ims_im, okAl_im, okAl_bl, okAl_nil, okRt_im, okRt_bl, okRt_nil, mut_im, mut_bl, mut_ls, mut_dc, lenU_tup, lenU_ls, tupU_tup, listU_tup, listU_ls, intU_num, ixU_tup, ixU_ls, ixU_dc, cutU_c, ixc0, ixc1, ixc2, ixp0, ixp1, mkTup_2, mkTup_3, mkTup_nil, mkLst_nil, okArgs_im, okArgs_nil, atI_0, atI_1, atI_2, isi_num_int, isi_num_bool, isi_tup_tuple, isi_num_tuple, wipeU, List.set_cons_zero, List.set_cons_succ, List.length_cons, List.length_nil, List.map_cons, List.map_nil, if_true, if_false, if_pos, Bool.false_eq_true, Bool.not_true, Bool.not_false, Bool.true_or, Bool.false_or, List.isEmpty_nil, List.isEmpty_cons, Option.map_none, mx, my, nx, ny, num_dec]
  rw [fits_dec]
  by_cases h1 : maxx b = (w : Int) - 1
  · rw [decide_eq_true h1]
    by_cases h2 : maxy b = (h : Int) - 1
    · rw [decide_eq_true h2]
      simp only [fRet, fU, fAnd, fOr, fB, f1, f2, f3, fSeq, fNext, fIfS, fIf, fC, fSet, fDrop, fItems, itemsU_b, itemsU_ls, itemsU_tup, fTup, fLst, fCons, fConsF, fNil, fCall, fCallD, fNot, fChain, fUnp, fPar, setAllU, fVar_0, fVar_s, Option.bind_some, Option.bind_none, Option.map_some, isB_bl, eqU_im, eqU_ls, eqU_bb, neU_im, neU_ls, neU_bl, ltU_num, gtU_num, leU_num, geU_num, addU_num, subU_num, negU_num, isN_tup, isN_none, notN_tup, notN_none, ims_nil, ims_im, okAl_im, okAl_bl, okAl_nil, okRt_im, okRt_bl, okRt_nil, mut_im, mut_bl, mut_ls, mut_dc, lenU_tup, lenU_ls, tupU_tup, listU_tup, listU_ls, intU_num, ixU_tup, ixU_ls, ixU_dc, cutU_c, ixc0, ixc1, ixc2, ixp0, ixp1, mkTup_2, mkTup_3, mkTup_nil, mkLst_nil, okArgs_im, okArgs_nil, atI_0, atI_1, atI_2, isi_num_int, isi_num_bool, isi_tup_tuple, isi_num_tuple, wipeU, List.set_cons_zero, List.set_cons_succ, List.length_cons, List.length_nil, List.map_cons, List.map_nil, if_true, if_false, if_pos, Bool.false_eq_true, Bool.not_true, Bool.not_false, Bool.true_or, Bool.false_or, List.isEmpty_nil, List.isEmpty_cons, Option.map_none]
      by_cases h3 : minx b = 0
      · rw [decide_eq_true h3]
        by_cases h4 : miny b = 0
        · rw [decide_eq_true h4]
          simp only [fRet, fU, fAnd, fOr, fB, f1, f2, f3, fSeq, fNext, fIfS, fIf, fC, fSet, fDrop, fItems, itemsU_b, itemsU_ls, itemsU_tup, fTup, fLst, fCons, fConsF, fNil, fCall, fCallD, fNot, fChain, fUnp, fPar, setAllU, fVar_0, fVar_s, Option.bind_some, Option.bind_none, Option.map_some, isB_bl, eqU_im, eqU_ls, eqU_bb, neU_im, neU_ls, neU_bl, ltU_num, gtU_num, leU_num, geU_num, addU_num, subU_num, negU_num, isN_tup, isN_none, notN_tup, notN_none, ims_nil, ims_im, okAl_im, okAl_bl, okAl_nil, okRt_im, okRt_bl, okRt_nil, mut_im, mut_bl, mut_ls, mut_dc, lenU_tup, lenU_ls, tupU_tup, listU_tup, listU_ls, intU_num, ixU_tup, ixU_ls, ixU_dc, cutU_c, ixc0, ixc1, ixc2, ixp0, ixp1, mkTup_2, mkTup_3, mkTup_nil, mkLst_nil, okArgs_im, okArgs_nil, atI_0, atI_1, atI_2, isi_num_int, isi_num_bool, isi_tup_tuple, isi_num_tuple, wipeU, List.set_cons_zero, List.set_cons_succ, List.length_cons, List.length_nil, List.map_cons, List.map_nil, if_true, if_false, if_pos, Bool.false_eq_true, Bool.not_true, Bool.not_false, Bool.true_or, Bool.false_or, List.isEmpty_nil, List.isEmpty_cons, Option.map_none]
          rw [app_ev (i := 3) (ds := found.map bD) (d := bD b) rfl rfl (by rw [List.length_map]; omega), Bool.and_true, if_pos (by rfl)]
          have e : (found ++ [b]).map bD = found.map bD ++ [bD b] := by rw [List.map_append]; rfl
          show _ = some (Res.nx (fr12 w h (found ++ [b]) o4 o5 (some (.im (bD b))) none none))
          unfold fr12
          rw [e]
          rfl
        · rw [decide_eq_false h4]
          simp only [fRet, fU, fAnd, fOr, fB, f1, f2, f3, fSeq, fNext, fIfS, fIf, fC, fSet, fDrop, fItems, itemsU_b, itemsU_ls, itemsU_tup, fTup, fLst, fCons, fConsF, fNil, fCall, fCallD, fNot, fChain, fUnp, fPar, setAllU, fVar_0, fVar_s, Option.bind_some, Option.bind_none, Option.map_some, isB_bl, eqU_im, eqU_ls, eqU_bb, neU_im, neU_ls, neU_bl, ltU_num, gtU_num, leU_num, geU_num, addU_num, subU_num, negU_num, isN_tup, isN_none, notN_tup, notN_none, ims_nil, ims_im, okAl_im, okAl_bl, okAl_nil, okRt_im, okRt_bl, okRt_nil, mut_im, mut_bl, mut_ls, mut_dc, lenU_tup, lenU_ls, tupU_tup, listU_tup, listU_ls, intU_num, ixU_tup, ixU_ls, ixU_dc, cutU_c, ixc0, ixc1, ixc2, ixp0, ixp1, mkTup_2, mkTup_3, mkTup_nil, mkLst_nil, okArgs_im, okArgs_nil, atI_0, atI_1, atI_2, isi_num_int, isi_num_bool, isi_tup_tuple, isi_num_tuple, wipeU, List.set_cons_zero, List.set_cons_succ, List.length_cons, List.length_nil, List.map_cons, List.map_nil, if_true, if_false, if_pos, Bool.false_eq_true, Bool.not_true, Bool.not_false, Bool.true_or, Bool.false_or, List.isEmpty_nil, List.isEmpty_cons, Option.map_none]
          rfl
      · rw [decide_eq_false h3]
        simp only [fRet, fU, fAnd, fOr, fB, f1, f2, f3, fSeq, fNext, fIfS, fIf, fC, fSet, fDrop, fItems, itemsU_b, itemsU_ls, itemsU_tup, fTup, fLst, fCons, fConsF, fNil, fCall, fCallD, fNot, fChain, fUnp, fPar, setAllU, fVar_0, fVar_s, Option.bind_some, Option.bind_none, Option.map_some, isB_bl, eqU_im, eqU_ls, eqU_bb, neU_im, neU_ls, neU_bl, ltU_num, gtU_num, leU_num, geU_num, addU_num, subU_num, negU_num, isN_tup, isN_none, notN_tup, notN_none, ims_nil, ims_im, okAl_im, okAl_bl, okAl_nil, okRt_im, okRt_bl, okRt_nil, mut_im, mut_bl, mut_ls, mut_dc, lenU_tup, lenU_ls, tupU_tup, listU_tup, listU_ls, intU_num, ixU_tup, ixU_ls, ixU_dc, cutU_c, ixc0, ixc1, ixc2, ixp0, ixp1, mkTup_2, mkTup_3, mkTup_nil, mkLst_nil, okArgs_im, okArgs_nil, atI_0, atI_1, atI_2, isi_num_int, isi_num_bool, isi_tup_tuple, isi_num_tuple, wipeU, List.set_cons_zero, List.set_cons_succ, List.length_cons, List.length_nil, List.map_cons, List.map_nil, if_true, if_false, if_pos, Bool.false_eq_true, Bool.not_true, Bool.not_false, Bool.true_or, Bool.false_or, List.isEmpty_nil, List.isEmpty_cons, Option.map_none]
        rfl
    · rw [decide_eq_false h2]
      simp only [fRet, fU, fAnd, fOr, fB, f1, f2, f3, fSeq, fNext, fIfS, fIf, fC, fSet, fDrop, fItems, itemsU_b, itemsU_ls, itemsU_tup, fTup, fLst, fCons, fConsF, fNil, fCall, fCallD, fNot, fChain, fUnp, fPar, setAllU, fVar_0, fVar_s, Option.bind_some, Option.bind_none, Option.map_some, isB_bl, eqU_im, eqU_ls, eqU_bb, neU_im, neU_ls, neU_bl, ltU_num, gtU_num, leU_num, geU_num, addU_num, subU_num, negU_num, isN_tup, isN_none, notN_tup, notN_none, ims_nil, ims_im, okAl_im, okAl_bl, okAl_nil, okRt_im, okRt_bl, okRt_nil, mut_im, mut_bl, mut_ls, mut_dc, lenU_tup, lenU_ls, tupU_tup, listU_tup, listU_ls, intU_num, ixU_tup, ixU_ls, ixU_dc, cutU_c, ixc0, ixc1, ixc2, ixp0, ixp1, mkTup_2, mkTup_3, mkTup_nil, mkLst_nil, okArgs_im, okArgs_nil, atI_0, atI_1, atI_2, isi_num_int, isi_num_bool, isi_tup_tuple, isi_num_tuple, wipeU, List.set_cons_zero, List.set_cons_succ, List.length_cons, List.length_nil, List.map_cons, List.map_nil, if_true, if_false, if_pos, Bool.false_eq_true, Bool.not_true, Bool.not_false, Bool.true_or, Bool.false_or, List.isEmpty_nil, List.isEmpty_cons, Option.map_none]
      rfl
  · rw [decide_eq_false h1]
    simp only [fRet, fU, fAnd, fOr, fB, f1, f2, f3, fSeq, fNext, fIfS, fIf, fC, fSet, fDrop, fItems, itemsU_b, itemsU_ls, itemsU_tup, fTup, fLst, fCons, fConsF, fNil, fCall, fCallD, fNot, fChain, fUnp, fPar, setAllU, fVar_0, fVar_s, Option.bind_some, Option.bind_none, Option.map_some, isB_bl, eqU_im, eqU_ls, eqU_bb, neU_im, neU_ls, neU_bl, ltU_num, gtU_num, leU_num, geU_num, addU_num, subU_num, negU_num, isN_tup, isN_none, notN_tup, notN_none, ims_nil, ims_im, okAl_im, okAl_bl, okAl_nil, okRt_im, okRt_bl, okRt_nil, mut_im, mut_bl, mut_ls, mut_dc, lenU_tup, lenU_ls, tupU_tup, listU_tup, listU_ls, intU_num, ixU_tup, ixU_ls, ixU_dc, cutU_c, ixc0, ixc1, ixc2, ixp0, ixp1, mkTup_2, mkTup_3, mkTup_nil, mkLst_nil, okArgs_im, okArgs_nil, atI_0, atI_1, atI_2, isi_num_int, isi_num_bool, isi_tup_tuple, isi_num_tuple, wipeU, List.set_cons_zero, List.set_cons_succ, List.length_cons, List.length_nil, List.map_cons, List.map_nil, if_true, if_false, if_pos, Bool.false_eq_true, Bool.not_true, Bool.not_false, Bool.true_or, Bool.false_or, List.isEmpty_nil, List.isEmpty_cons, Option.map_none]
    rfl
theorem gBx_ev {w h : Nat} (hn : w * h ≤ 6) {j : Nat} (hj : j < 2 ^ (w * h) - 1) (found : List (List Cell)) (hf : found.length ≤ 1000) (o5 o6 : Option U) : ∃ o5' o6', gBx (fr12 w h found (some (.im (.num (1 + (j : Int))))) o5 o6 none none) = some (.nx (fr12 w h (keepB w h found j) (some (.im (.num (1 + (j : Int))))) o5' o6' none none)) := by
  have hlen : (gr w h).length = w * h := grid_len 0 0 w h
  have hne : sel (gr w h) (1 + (j : Int)) ≠ [] := sel_ne (by omega) (by rw [hlen]; exact hj)
  have hl : (sel (gr w h) (1 + (j : Int))).length ≤ 6 := Nat.le_trans (sel_len (gr w h) _) (by omega)
  have hg : Good (sel (gr w h) (1 + (j : Int))) := sel_good (rise_grid 0 0 w h) _
  have eb := E_board_of hg.dk (Nat.le_trans hl (by omega))
  rw [rise_self hg] at eb
  refine ⟨some (.dc (dK (sel (gr w h) (1 + (j : Int))))), some (.im (bD (sel (gr w h) (1 + (j : Int))))), ?_⟩
  have e0 : gBx = fSeq (fSet 5 [] (fDc (fEnum (fVar 2)) (bTup [9, 10]) (fB (f2 eqU (f2 bandU (f2 shrU (fVar 4) (fVar 9)) (fC (.im (.num 1)))) (fC (.im (.num 1))))) (fVar 10) (fC (.im (.num 1))) [9, 10])) (fSeq (fSet 6 [] (fCallD F_board_of (fCons (fVar 5) fNil))) gBt) := rfl
  rw [e0]
  unfold fSeq
  have s1 : fSet 5 [] (fDc (fEnum (fVar 2)) (bTup [9, 10]) (fB (f2 eqU (f2 bandU (f2 shrU (fVar 4) (fVar 9)) (fC (.im (.num 1)))) (fC (.im (.num 1))))) (fVar 10) (fC (.im (.num 1))) [9, 10]) (fr12 w h found (some (.im (.num (1 + (j : Int))))) o5 o6 none none) = some (.nx (fr12 w h found (some (.im (.num (1 + (j : Int))))) (some (.dc (dK (sel (gr w h) (1 + (j : Int)))))) o6 none none)) := by
    unfold fSet
    rw [cells_ev hn, Option.bind_some, if_pos (okAl_nil _ _)]
    rfl
  rw [s1, Option.bind_some]
  dsimp only
  have s2 : fSet 6 [] (fCallD F_board_of (fCons (fVar 5) fNil)) (fr12 w h found (some (.im (.num (1 + (j : Int))))) (some (.dc (dK (sel (gr w h) (1 + (j : Int)))))) o6 none none) = some (.nx (fr12 w h found (some (.im (.num (1 + (j : Int))))) (some (.dc (dK (sel (gr w h) (1 + (j : Int)))))) (some (.im (bD (sel (gr w h) (1 + (j : Int)))))) none none)) := by
    simp only [fRet, fU, fAnd, fOr, fB, f1, f2, f3, fSeq, fNext, fIfS, fIf, fC, fSet, fDrop, fItems, itemsU_b, itemsU_ls, itemsU_tup, fTup, fLst, fCons, fConsF, fNil, fCall, fCallD, fNot, fChain, fUnp, fPar, setAllU, fVar_0, fVar_s, Option.bind_some, Option.bind_none, Option.map_some, isB_bl, eqU_im, eqU_ls, eqU_bb, neU_im, neU_ls, neU_bl, ltU_num, gtU_num, leU_num, geU_num, addU_num, subU_num, negU_num, isN_tup, isN_none, notN_tup, notN_none, ims_nil, ims_im, okAl_im, okAl_bl, okAl_nil, okRt_im, okRt_bl, okRt_nil, mut_im, mut_bl, mut_ls, mut_dc, lenU_tup, lenU_ls, tupU_tup, listU_tup, listU_ls, intU_num, ixU_tup, ixU_ls, ixU_dc, cutU_c, ixc0, ixc1, ixc2, ixp0, ixp1, mkTup_2, mkTup_3, mkTup_nil, mkLst_nil, okArgs_im, okArgs_nil, atI_0, atI_1, atI_2, isi_num_int, isi_num_bool, isi_tup_tuple, isi_num_tuple, wipeU, List.set_cons_zero, List.set_cons_succ, List.length_cons, List.length_nil, List.map_cons, List.map_nil, if_true, if_false, if_pos, Bool.false_eq_true, Bool.not_true, Bool.not_false, Bool.true_or, Bool.false_or, List.isEmpty_nil, List.isEmpty_cons, Option.map_none, okArgs_1, eb]
  rw [s2, Option.bind_some]
  dsimp only
  rw [gBt_ev w h _ hne (by omega) found hf]
  rfl
theorem places_lc (w h : Nat) (hn : w * h ≤ 6) (hw : w ≤ 6) (hh : h ≤ 6) : fLc2 (fRng1 (fCons (fVar 0) fNil)) (bName 7) fYes (fRng1 (fCons (fVar 1) fNil)) (bName 8) fYes (fTup (fCons (fVar 7) (fCons (fVar 8) fNil))) [7, 8] [8] [some (.im (.num (w : Int))), some (.im (.num (h : Int))), none, none, none, none, none, none, none, none, none, none] = some (.ls ((gr w h).map pD)) := by
  have hlen : (gr w h).length = w * h := grid_len 0 0 w h
  unfold fLc2
  rw [rng1_ev (k := w) (by omega) (by simp only [fRet, fU, fAnd, fOr, fB, f1, f2, f3, fSeq, fNext, fIfS, fIf, fC, fSet, fDrop, fItems, itemsU_b, itemsU_ls, itemsU_tup, fTup, fLst, fCons, fConsF, fNil, fCall, fCallD, fNot, fChain, fUnp, fPar, setAllU, fVar_0, fVar_s, Option.bind_some, Option.bind_none, Option.map_some, isB_bl, eqU_im, eqU_ls, eqU_bb, neU_im, neU_ls, neU_bl, ltU_num, gtU_num, leU_num, geU_num, addU_num, subU_num, negU_num, isN_tup, isN_none, notN_tup, notN_none, ims_nil, ims_im, okAl_im, okAl_bl, okAl_nil, okRt_im, okRt_bl, okRt_nil, mut_im, mut_bl, mut_ls, mut_dc, lenU_tup, lenU_ls, tupU_tup, listU_tup, listU_ls, intU_num, ixU_tup, ixU_ls, ixU_dc, cutU_c, ixc0, ixc1, ixc2, ixp0, ixp1, mkTup_2, mkTup_3, mkTup_nil, mkLst_nil, okArgs_im, okArgs_nil, atI_0, atI_1, atI_2, isi_num_int, isi_num_bool, isi_tup_tuple, isi_num_tuple, wipeU, List.set_cons_zero, List.set_cons_succ, List.length_cons, List.length_nil, List.map_cons, List.map_nil, if_true, if_false, if_pos, Bool.false_eq_true, Bool.not_true, Bool.not_false, Bool.true_or, Bool.false_or, List.isEmpty_nil, List.isEmpty_cons, Option.map_none]), Option.bind_some]
  have e := lc2Go_map (b := bName 7) (b1 := bName 8) (fi1 := fRng1 (fCons (fVar 1) fNil)) (fe := fTup (fCons (fVar 7) (fCons (fVar 8) fNil))) (vs1 := [8]) (τ := [some (.im (.num (w : Int))), some (.im (.num (h : Int))), none, none, none, none, none, none, none, none, none, none]) (fun (i : Nat) => NestedKey.num (0 + (i : Int))) (fun i => (List.range h).map fun (j : Nat) => pD (0 + (i : Int), 0 + (j : Int))) (List.range w) (fun i _ => ⟨_, rngD 0 h, rfl, rng1_ev (k := h) (by omega) (by simp only [fRet, fU, fAnd, fOr, fB, f1, f2, f3, fSeq, fNext, fIfS, fIf, fC, fSet, fDrop, fItems, itemsU_b, itemsU_ls, itemsU_tup, fTup, fLst, fCons, fConsF, fNil, fCall, fCallD, fNot, fChain, fUnp, fPar, setAllU, fVar_0, fVar_s, Option.bind_some, Option.bind_none, Option.map_some, isB_bl, eqU_im, eqU_ls, eqU_bb, neU_im, neU_ls, neU_bl, ltU_num, gtU_num, leU_num, geU_num, addU_num, subU_num, negU_num, isN_tup, isN_none, notN_tup, notN_none, ims_nil, ims_im, okAl_im, okAl_bl, okAl_nil, okRt_im, okRt_bl, okRt_nil, mut_im, mut_bl, mut_ls, mut_dc, lenU_tup, lenU_ls, tupU_tup, listU_tup, listU_ls, intU_num, ixU_tup, ixU_ls, ixU_dc, cutU_c, ixc0, ixc1, ixc2, ixp0, ixp1, mkTup_2, mkTup_3, mkTup_nil, mkLst_nil, okArgs_im, okArgs_nil, atI_0, atI_1, atI_2, isi_num_int, isi_num_bool, isi_tup_tuple, isi_num_tuple, wipeU, List.set_cons_zero, List.set_cons_succ, List.length_cons, List.length_nil, List.map_cons, List.map_nil, if_true, if_false, if_pos, Bool.false_eq_true, Bool.not_true, Bool.not_false, Bool.true_or, Bool.false_or, List.isEmpty_nil, List.isEmpty_cons, Option.map_none]), lcGo_all (fun (j : Nat) => NestedKey.num (0 + (j : Int))) _ (List.range h) fun j _ => ⟨_, rfl, by
    show fTup (fCons (fVar 7) (fCons (fVar 8) fNil)) [some (.im (.num (w : Int))), some (.im (.num (h : Int))), none, none, none, none, none, some (.im (.num (0 + (i : Int)))), some (.im (.num (0 + (j : Int)))), none, none, none] = _
    simp only [fRet, fU, fAnd, fOr, fB, f1, f2, f3, fSeq, fNext, fIfS, fIf, fC, fSet, fDrop, fItems, itemsU_b, itemsU_ls, itemsU_tup, fTup, fLst, fCons, fConsF, fNil, fCall, fCallD, fNot, fChain, fUnp, fPar, setAllU, fVar_0, fVar_s, Option.bind_some, Option.bind_none, Option.map_some, isB_bl, eqU_im, eqU_ls, eqU_bb, neU_im, neU_ls, neU_bl, ltU_num, gtU_num, leU_num, geU_num, addU_num, subU_num, negU_num, isN_tup, isN_none, notN_tup, notN_none, ims_nil, ims_im, okAl_im, okAl_bl, okAl_nil, okRt_im, okRt_bl, okRt_nil, mut_im, mut_bl, mut_ls, mut_dc, lenU_tup, lenU_ls, tupU_tup, listU_tup, listU_ls, intU_num, ixU_tup, ixU_ls, ixU_dc, cutU_c, ixc0, ixc1, ixc2, ixp0, ixp1, mkTup_2, mkTup_3, mkTup_nil, mkLst_nil, okArgs_im, okArgs_nil, atI_0, atI_1, atI_2, isi_num_int, isi_num_bool, isi_tup_tuple, isi_num_tuple, wipeU, List.set_cons_zero, List.set_cons_succ, List.length_cons, List.length_nil, List.map_cons, List.map_nil, if_true, if_false, if_pos, Bool.false_eq_true, Bool.not_true, Bool.not_false, Bool.true_or, Bool.false_or, List.isEmpty_nil, List.isEmpty_cons, Option.map_none]⟩⟩)
  have e2 : (List.range w).flatMap (fun (i : Nat) => (List.range h).map fun (j : Nat) => pD (0 + (i : Int), 0 + (j : Int))) = (gr w h).map pD := by
    show _ = (grid 0 0 w h).map pD
    unfold grid
    rw [List.map_flatMap]
    simp only [List.map_map]
    rfl
  have e3 : wipeU [some (.im (.num (w : Int))), some (.im (.num (h : Int))), none, none, none, none, none, none, none, none, none, none] [7, 8] = [some (.im (.num (w : Int))), some (.im (.num (h : Int))), none, none, none, none, none, none, none, none, none, none] := rfl
  unfold rngD
  rw [e3, e, Option.bind_some, e2, if_pos (lt_size (by rw [List.length_map, hlen]; omega))]
theorem pow6 {n : Nat} (h : n ≤ 6) : 1 ≤ 2 ^ n ∧ 2 ^ n ≤ 64 := ⟨Nat.one_le_two_pow, Nat.le_trans (Nat.pow_le_pow_right (by omega) h) (by decide)⟩
theorem E_boards_in {w h : Nat} (hn : w * h ≤ 6) (hw : w ≤ 6) (hh : h ≤ 6) : F_boards_in [.im (.num (w : Int)), .im (.num (h : Int))] = some (.ls ((boxB w h).map bD)) ∧ (boxB w h).length ≤ 100 := by
  have hlen : (gr w h).length = w * h := grid_len 0 0 w h
  obtain ⟨p1, p2⟩ := pow6 hn
  obtain ⟨τ', h1, o4, o5, o6, rfl, h2⟩ := loopV_ix (b := bName 4) (g := gBx) (fun (j : Nat) => NestedKey.num (1 + (j : Int))) (fun n l τ => ∃ o4 o5 o6, τ = fr12 w h l o4 o5 o6 none none ∧ l.length + n ≤ 100) (keepB w h) (List.range (2 ^ (w * h) - 1)) (fun j hj n l τ ⟨o4, o5, o6, e, hl⟩ => by
    subst e
    obtain ⟨o5', o6', e1⟩ := gBx_ev hn (List.mem_range.mp hj) l (by omega) o5 o6
    refine ⟨_, _, rfl, e1, some (.im (.num (1 + (j : Int)))), o5', o6', rfl, ?_⟩
    have := keepB_len w h l j
    omega) 0 [] (fr12 w h [] none none none none none) ⟨none, none, none, rfl, by rw [List.length_range]; show 0 + _ ≤ 100; omega⟩
  refine ⟨?_, h2⟩
  unfold F_boards_in runG
  show (g_boards_in [some (.im (.num (w : Int))), some (.im (.num (h : Int))), none, none, none, none, none, none, none, none, none, none]).bind _ = _
  have e0 : g_boards_in = fSeq (fSet 2 [] (fLc2 (fRng1 (fCons (fVar 0) fNil)) (bName 7) fYes (fRng1 (fCons (fVar 1) fNil)) (bName 8) fYes (fTup (fCons (fVar 7) (fCons (fVar 8) fNil))) [7, 8] [8])) (fSeq (fSet 3 [] (fLst fNil)) (fSeq (fFor (fRng2 (fCons (fC (.im (.num 1))) (fCons (f2 shlU (fC (.im (.num 1))) (fCall lenU (fCons (fVar 2) fNil))) fNil))) (bName 4) gBx) (fRet [3] [3] (fVar 3)))) := rfl
  rw [e0]
  unfold fSeq
  have s1 : fSet 2 [] (fLc2 (fRng1 (fCons (fVar 0) fNil)) (bName 7) fYes (fRng1 (fCons (fVar 1) fNil)) (bName 8) fYes (fTup (fCons (fVar 7) (fCons (fVar 8) fNil))) [7, 8] [8]) [some (.im (.num (w : Int))), some (.im (.num (h : Int))), none, none, none, none, none, none, none, none, none, none] = some (.nx [some (.im (.num (w : Int))), some (.im (.num (h : Int))), some (.ls ((gr w h).map pD)), none, none, none, none, none, none, none, none, none]) := by
    unfold fSet
    rw [places_lc w h hn hw hh, Option.bind_some, if_pos (okAl_nil _ _)]
    rfl
  rw [s1, Option.bind_some]
  dsimp only
  have s2 : fSet 3 [] (fLst fNil) [some (.im (.num (w : Int))), some (.im (.num (h : Int))), some (.ls ((gr w h).map pD)), none, none, none, none, none, none, none, none, none] = some (.nx (fr12 w h [] none none none none none)) := by
    simp only [fRet, fU, fAnd, fOr, fB, f1, f2, f3, fSeq, fNext, fIfS, fIf, fC, fSet, fDrop, fItems, itemsU_b, itemsU_ls, itemsU_tup, fTup, fLst, fCons, fConsF, fNil, fCall, fCallD, fNot, fChain, fUnp, fPar, setAllU, fVar_0, fVar_s, Option.bind_some, Option.bind_none, Option.map_some, isB_bl, eqU_im, eqU_ls, eqU_bb, neU_im, neU_ls, neU_bl, ltU_num, gtU_num, leU_num, geU_num, addU_num, subU_num, negU_num, isN_tup, isN_none, notN_tup, notN_none, ims_nil, ims_im, okAl_im, okAl_bl, okAl_nil, okRt_im, okRt_bl, okRt_nil, mut_im, mut_bl, mut_ls, mut_dc, lenU_tup, lenU_ls, tupU_tup, listU_tup, listU_ls, intU_num, ixU_tup, ixU_ls, ixU_dc, cutU_c, ixc0, ixc1, ixc2, ixp0, ixp1, mkTup_2, mkTup_3, mkTup_nil, mkLst_nil, okArgs_im, okArgs_nil, atI_0, atI_1, atI_2, isi_num_int, isi_num_bool, isi_tup_tuple, isi_num_tuple, wipeU, List.set_cons_zero, List.set_cons_succ, List.length_cons, List.length_nil, List.map_cons, List.map_nil, if_true, if_false, if_pos, Bool.false_eq_true, Bool.not_true, Bool.not_false, Bool.true_or, Bool.false_or, List.isEmpty_nil, List.isEmpty_cons, Option.map_none]
    rfl
  rw [s2, Option.bind_some]
  dsimp only
  have s3 : fFor (fRng2 (fCons (fC (.im (.num 1))) (fCons (f2 shlU (fC (.im (.num 1))) (fCall lenU (fCons (fVar 2) fNil))) fNil))) (bName 4) gBx (fr12 w h [] none none none none none) = some (.nx (fr12 w h (boxB w h) o4 o5 o6 none none)) := by
    unfold fFor
    rw [rng2_to (M := 2 ^ (w * h)) p1 (by omega) (by
      simp only [fRet, fU, fAnd, fOr, fB, f1, f2, f3, fSeq, fNext, fIfS, fIf, fC, fSet, fDrop, fItems, itemsU_b, itemsU_ls, itemsU_tup, fTup, fLst, fCons, fConsF, fNil, fCall, fCallD, fNot, fChain, fUnp, fPar, setAllU, fVar_0, fVar_s, Option.bind_some, Option.bind_none, Option.map_some, isB_bl, eqU_im, eqU_ls, eqU_bb, neU_im, neU_ls, neU_bl, ltU_num, gtU_num, leU_num, geU_num, addU_num, subU_num, negU_num, isN_tup, isN_none, notN_tup, notN_none, ims_nil, ims_im, okAl_im, okAl_bl, okAl_nil, okRt_im, okRt_bl, okRt_nil, mut_im, mut_bl, mut_ls, mut_dc, lenU_tup, lenU_ls, tupU_tup, listU_tup, listU_ls, intU_num, ixU_tup, ixU_ls, ixU_dc, cutU_c, ixc0, ixc1, ixc2, ixp0, ixp1, mkTup_2, mkTup_3, mkTup_nil, mkLst_nil, okArgs_im, okArgs_nil, atI_0, atI_1, atI_2, isi_num_int, isi_num_bool, isi_tup_tuple, isi_num_tuple, wipeU, List.set_cons_zero, List.set_cons_succ, List.length_cons, List.length_nil, List.map_cons, List.map_nil, if_true, if_false, if_pos, Bool.false_eq_true, Bool.not_true, Bool.not_false, Bool.true_or, Bool.false_or, List.isEmpty_nil, List.isEmpty_cons, Option.map_none, List.length_map, hlen, shl_ev _ hn]), Option.bind_some]
    exact h1
  rw [s3, Option.bind_some]
  rfl
end VL

set_option Elab.async false
set_option linter.all false
set_option maxRecDepth 100000
set_option maxHeartbeats 400000
/-! VMm: the law's box boards: the same list. -/
namespace VL
open PySem L2 PyProof.Rows

abbrev fr9b (w h : Nat) (ps : List Pl) (found : List (List Cell)) (o4 o5 o6 : Option U) : Sh := [some (.im (.num (w : Int))), some (.im (.num (h : Int))), some (.ls (ps.map pD)), some (.ls (found.map bD)), o4, o5, o6, none, none]
def colL (h : Nat) (l : List Pl) (i : Nat) : List Pl := l ++ (List.range h).map fun (j : Nat) => (0 + (i : Int), 0 + (j : Int))
def gCol : Sh → Option Res := (fSet 2 [] (f2 addU (fVar 2) (fLc (fRng1 (fCons (fVar 1) fNil)) (bName 7) fYes (fTup (fCons (fVar 4) (fCons (fVar 7) fNil))) [7])))
theorem colL_len (h : Nat) (l : List Pl) (i : Nat) : (colL h l i).length = l.length + h := by unfold colL; rw [List.length_append, List.length_map, List.length_range]
theorem gCol_ev (w h : Nat) (hh : h ≤ 6) (l : List Pl) (hl : l.length ≤ 1000) (i : Nat) : gCol (fr9b w h l [] (some (.im (.num (0 + (i : Int))))) none none) = some (.nx (fr9b w h (colL h l i) [] (some (.im (.num (0 + (i : Int))))) none none)) := by
  have e1 : fLc (fRng1 (fCons (fVar 1) fNil)) (bName 7) fYes (fTup (fCons (fVar 4) (fCons (fVar 7) fNil))) [7] (fr9b w h l [] (some (.im (.num (0 + (i : Int))))) none none) = some (.ls (((List.range h).map fun (j : Nat) => ((0 + (i : Int), 0 + (j : Int)) : Pl)).map pD)) := by
    unfold fLc
    rw [rng1_ev (k := h) (by omega) (by simp only [fRet, fU, fAnd, fOr, fB, f1, f2, f3, fSeq, fNext, fIfS, fIf, fC, fSet, fDrop, fItems, itemsU_b, itemsU_ls, itemsU_tup, fTup, fLst, fCons, fConsF, fNil, fCall, fCallD, fNot, fChain, fUnp, fPar, setAllU, fVar_0, fVar_s, Option.bind_some, Option.bind_none, Option.map_some, isB_bl, eqU_im, eqU_ls, eqU_bb, neU_im, neU_ls, neU_bl, ltU_num, gtU_num, leU_num, geU_num, addU_num, subU_num, negU_num, isN_tup, isN_none, notN_tup, notN_none, ims_nil, ims_im, okAl_im, okAl_bl, okAl_nil, okRt_im, okRt_bl, okRt_nil, mut_im, mut_bl, mut_ls, mut_dc, lenU_tup, lenU_ls, tupU_tup, listU_tup, listU_ls, intU_num, ixU_tup, ixU_ls, ixU_dc, cutU_c, ixc0, ixc1, ixc2, ixp0, ixp1, mkTup_2, mkTup_3, mkTup_nil, mkLst_nil, okArgs_im, okArgs_nil, atI_0, atI_1, atI_2, isi_num_int, isi_num_bool, isi_tup_tuple, isi_num_tuple, wipeU, List.set_cons_zero, List.set_cons_succ, List.length_cons, List.length_nil, List.map_cons, List.map_nil, if_true, if_false, if_pos, Bool.false_eq_true, Bool.not_true, Bool.not_false, Bool.true_or, Bool.false_or, List.isEmpty_nil, List.isEmpty_cons, Option.map_none]), Option.bind_some]
    unfold rngD
    rw [if_pos (lt_size (by rw [List.length_map, List.length_range]; omega))]
    have e := lcGo_all (b := bName 7) (fe := fTup (fCons (fVar 4) (fCons (fVar 7) fNil))) (τ := wipeU (fr9b w h l [] (some (.im (.num (0 + (i : Int))))) none none) [7]) (fun (j : Nat) => NestedKey.num (0 + (j : Int))) (fun (j : Nat) => pD (0 + (i : Int), 0 + (j : Int))) (List.range h) (fun j _ => ⟨_, rfl, by
      show fTup (fCons (fVar 4) (fCons (fVar 7) fNil)) [some (.im (.num (w : Int))), some (.im (.num (h : Int))), some (.ls (l.map pD)), some (.ls (([] : List (List Cell)).map bD)), some (.im (.num (0 + (i : Int)))), none, none, some (.im (.num (0 + (j : Int)))), none] = _
      simp only [fRet, fU, fAnd, fOr, fB, f1, f2, f3, fSeq, fNext, fIfS, fIf, fC, fSet, fDrop, fItems, itemsU_b, itemsU_ls, itemsU_tup, fTup, fLst, fCons, fConsF, fNil, fCall, fCallD, fNot, fChain, fUnp, fPar, setAllU, fVar_0, fVar_s, Option.bind_some, Option.bind_none, Option.map_some, isB_bl, eqU_im, eqU_ls, eqU_bb, neU_im, neU_ls, neU_bl, ltU_num, gtU_num, leU_num, geU_num, addU_num, subU_num, negU_num, isN_tup, isN_none, notN_tup, notN_none, ims_nil, ims_im, okAl_im, okAl_bl, okAl_nil, okRt_im, okRt_bl, okRt_nil, mut_im, mut_bl, mut_ls, mut_dc, lenU_tup, lenU_ls, tupU_tup, listU_tup, listU_ls, intU_num, ixU_tup, ixU_ls, ixU_dc, cutU_c, ixc0, ixc1, ixc2, ixp0, ixp1, mkTup_2, mkTup_3, mkTup_nil, mkLst_nil, okArgs_im, okArgs_nil, atI_0, atI_1, atI_2, isi_num_int, isi_num_bool, isi_tup_tuple, isi_num_tuple, wipeU, List.set_cons_zero, List.set_cons_succ, List.length_cons, List.length_nil, List.map_cons, List.map_nil, if_true, if_false, if_pos, Bool.false_eq_true, Bool.not_true, Bool.not_false, Bool.true_or, Bool.false_or, List.isEmpty_nil, List.isEmpty_cons, Option.map_none]⟩)
    rw [e, List.map_map]
    rfl
  unfold gCol fSet f2
  rw [show fVar 2 (fr9b w h l [] (some (.im (.num (0 + (i : Int))))) none none) = some (.ls (l.map pD)) from rfl, Option.bind_some, e1, Option.bind_some]
  rw [show addU (.ls (l.map pD)) (.ls (((List.range h).map fun (j : Nat) => ((0 + (i : Int), 0 + (j : Int)) : Pl)).map pD)) = (if (l.map pD).length + (((List.range h).map fun (j : Nat) => ((0 + (i : Int), 0 + (j : Int)) : Pl)).map pD).length ≤ sizeLine then some (U.ls (l.map pD ++ ((List.range h).map fun (j : Nat) => ((0 + (i : Int), 0 + (j : Int)) : Pl)).map pD)) else none) from rfl]
  rw [if_pos (by rw [List.length_map, List.length_map, List.length_map, List.length_range]; exact Nat.le_of_lt (lt_size (by omega))), Option.bind_some, if_pos (okAl_nil _ _)]
  have e2 : (colL h l i).map pD = l.map pD ++ ((List.range h).map fun (j : Nat) => ((0 + (i : Int), 0 + (j : Int)) : Pl)).map pD := by unfold colL; rw [List.map_append]
  unfold fr9b
  rw [e2]
  rfl
theorem colL_fold (h : Nat) : ∀ (is : List Nat) (l : List Pl), is.foldl (colL h) l = l ++ is.flatMap fun (i : Nat) => (List.range h).map fun (j : Nat) => ((0 + (i : Int), 0 + (j : Int)) : Pl)
  | [], l => by simp
  | i :: is, l => by
    rw [List.foldl_cons, colL_fold h is, List.flatMap_cons]
    unfold colL
    rw [List.append_assoc]
theorem nD_dec (a b : List Int) : decide (nD a = nD b) = decide (a = b) := by
  by_cases h : a = b
  · rw [decide_eq_true h, decide_eq_true (by rw [h])]
  · have z' : ¬ nD a = nD b := fun z => h (map_inj (f := NestedKey.num) (fun _ _ => NestedKey.num.inj) (NestedKey.tup.inj z))
    rw [decide_eq_false h, decide_eq_false z']
theorem sel_lc {w h : Nat} (hn : w * h ≤ 6) (found : List (List Cell)) (o4 o6 : Option U) (N : Int) : fCall tupU (fCons (fLc (fRng1 (fCons (fCall lenU (fCons (fVar 2) fNil)) fNil)) (bName 8) (fB (f2 eqU (f2 bandU (f2 shrU (fVar 5) (fVar 8)) (fC (.im (.num 1)))) (fC (.im (.num 1))))) (f2 addU (f2 ixU (fVar 2) (fVar 8)) (fTup (fCons (fC (.im (.num 1))) fNil))) [8]) fNil) (fr9b w h (gr w h) found o4 (some (.im (.num N))) o6) = some (.im (bD (sel (gr w h) N))) := by
  have hlen : (gr w h).length = w * h := grid_len 0 0 w h
  have e := lcGo_map (b := bName 8) (ft := fB (f2 eqU (f2 bandU (f2 shrU (fVar 5) (fVar 8)) (fC (.im (.num 1)))) (fC (.im (.num 1))))) (fe := f2 addU (f2 ixU (fVar 2) (fVar 8)) (fTup (fCons (fC (.im (.num 1))) fNil))) (τ := wipeU (fr9b w h (gr w h) found o4 (some (.im (.num N))) o6) [8]) (fun (k : Nat) => NestedKey.num (0 + (k : Int))) (bit N) (fun k => cD (mkC (nth (gr w h) k))) (List.range (w * h)) (fun k hk => ⟨_, rfl, by
    have e0 : (0 : Int) + (k : Int) = (k : Int) := by omega
    show ((((shrU (.im (.num N)) (.im (.num (0 + (k : Int))))).bind fun x => bandU x (.im (.num 1))).bind fun y => eqU y (.im (.num 1))).bind isB) = _
    rw [e0, bit_ev N k]
    rfl, fun _ => by
    have e0 : (0 : Int) + (k : Int) = (k : Int) := by omega
    have hk := List.mem_range.mp hk
    have hk2 : k < (gr w h).length := by omega
    have ea : L2.atI ((gr w h).map pD) (k : Int) = some (pD (nth (gr w h) k)) := atI_nat (by
      rw [List.getElem?_map, List.getElem?_eq_getElem hk2]
      simp [nth, List.getD_eq_getElem?_getD, List.getElem?_eq_getElem hk2])
    show (((ixU (.ls ((gr w h).map pD)) (.im (.num (0 + (k : Int)))))).bind fun x => (fTup (fCons (fC (.im (.num 1))) fNil) _).bind fun y => addU x y) = _
    rw [e0, ixU_ls, ea]
    simp only [fRet, fU, fAnd, fOr, fB, f1, f2, f3, fSeq, fNext, fIfS, fIf, fC, fSet, fDrop, fItems, itemsU_b, itemsU_ls, itemsU_tup, fTup, fLst, fCons, fConsF, fNil, fCall, fCallD, fNot, fChain, fUnp, fPar, setAllU, fVar_0, fVar_s, Option.bind_some, Option.bind_none, Option.map_some, isB_bl, eqU_im, eqU_ls, eqU_bb, neU_im, neU_ls, neU_bl, ltU_num, gtU_num, leU_num, geU_num, addU_num, subU_num, negU_num, isN_tup, isN_none, notN_tup, notN_none, ims_nil, ims_im, okAl_im, okAl_bl, okAl_nil, okRt_im, okRt_bl, okRt_nil, mut_im, mut_bl, mut_ls, mut_dc, lenU_tup, lenU_ls, tupU_tup, listU_tup, listU_ls, intU_num, ixU_tup, ixU_ls, ixU_dc, cutU_c, ixc0, ixc1, ixc2, ixp0, ixp1, mkTup_2, mkTup_3, mkTup_nil, mkLst_nil, okArgs_im, okArgs_nil, atI_0, atI_1, atI_2, isi_num_int, isi_num_bool, isi_tup_tuple, isi_num_tuple, wipeU, List.set_cons_zero, List.set_cons_succ, List.length_cons, List.length_nil, List.map_cons, List.map_nil, if_true, if_false, if_pos, Bool.false_eq_true, Bool.not_true, Bool.not_false, Bool.true_or, Bool.false_or, List.isEmpty_nil, List.isEmpty_cons, Option.map_none, mkTup_1]
    exact st_add1 _ _⟩)
  have e2 : ((List.range (w * h)).filter (bit N)).map (fun k => cD (mkC (nth (gr w h) k))) = (sel (gr w h) N).map cD := by
    unfold sel
    rw [List.map_map, hlen]
    rfl
  have hlc : fLc (fRng1 (fCons (fCall lenU (fCons (fVar 2) fNil)) fNil)) (bName 8) (fB (f2 eqU (f2 bandU (f2 shrU (fVar 5) (fVar 8)) (fC (.im (.num 1)))) (fC (.im (.num 1))))) (f2 addU (f2 ixU (fVar 2) (fVar 8)) (fTup (fCons (fC (.im (.num 1))) fNil))) [8] (fr9b w h (gr w h) found o4 (some (.im (.num N))) o6) = some (.ls ((sel (gr w h) N).map cD)) := by
    unfold fLc
    rw [rng1_ev (k := w * h) (by omega) (by simp only [fRet, fU, fAnd, fOr, fB, f1, f2, f3, fSeq, fNext, fIfS, fIf, fC, fSet, fDrop, fItems, itemsU_b, itemsU_ls, itemsU_tup, fTup, fLst, fCons, fConsF, fNil, fCall, fCallD, fNot, fChain, fUnp, fPar, setAllU, fVar_0, fVar_s, Option.bind_some, Option.bind_none, Option.map_some, isB_bl, eqU_im, eqU_ls, eqU_bb, neU_im, neU_ls, neU_bl, ltU_num, gtU_num, leU_num, geU_num, addU_num, subU_num, negU_num, isN_tup, isN_none, notN_tup, notN_none, ims_nil, ims_im, okAl_im, okAl_bl, okAl_nil, okRt_im, okRt_bl, okRt_nil, mut_im, mut_bl, mut_ls, mut_dc, lenU_tup, lenU_ls, tupU_tup, listU_tup, listU_ls, intU_num, ixU_tup, ixU_ls, ixU_dc, cutU_c, ixc0, ixc1, ixc2, ixp0, ixp1, mkTup_2, mkTup_3, mkTup_nil, mkLst_nil, okArgs_im, okArgs_nil, atI_0, atI_1, atI_2, isi_num_int, isi_num_bool, isi_tup_tuple, isi_num_tuple, wipeU, List.set_cons_zero, List.set_cons_succ, List.length_cons, List.length_nil, List.map_cons, List.map_nil, if_true, if_false, if_pos, Bool.false_eq_true, Bool.not_true, Bool.not_false, Bool.true_or, Bool.false_or, List.isEmpty_nil, List.isEmpty_cons, Option.map_none, List.length_map, hlen]), Option.bind_some]
    unfold rngD
    rw [if_pos (lt_size (by rw [List.length_map, List.length_range]; omega)), e, Option.map_some, e2]
  simp only [fRet, fU, fAnd, fOr, fB, f1, f2, f3, fSeq, fNext, fIfS, fIf, fC, fSet, fDrop, fItems, itemsU_b, itemsU_ls, itemsU_tup, fTup, fLst, fCons, fConsF, fNil, fCall, fCallD, fNot, fChain, fUnp, fPar, setAllU, fVar_0, fVar_s, Option.bind_some, Option.bind_none, Option.map_some, isB_bl, eqU_im, eqU_ls, eqU_bb, neU_im, neU_ls, neU_bl, ltU_num, gtU_num, leU_num, geU_num, addU_num, subU_num, negU_num, isN_tup, isN_none, notN_tup, notN_none, ims_nil, ims_im, okAl_im, okAl_bl, okAl_nil, okRt_im, okRt_bl, okRt_nil, mut_im, mut_bl, mut_ls, mut_dc, lenU_tup, lenU_ls, tupU_tup, listU_tup, listU_ls, intU_num, ixU_tup, ixU_ls, ixU_dc, cutU_c, ixc0, ixc1, ixc2, ixp0, ixp1, mkTup_2, mkTup_3, mkTup_nil, mkLst_nil, okArgs_im, okArgs_nil, atI_0, atI_1, atI_2, isi_num_int, isi_num_bool, isi_tup_tuple, isi_num_tuple, wipeU, List.set_cons_zero, List.set_cons_succ, List.length_cons, List.length_nil, List.map_cons, List.map_nil, if_true, if_false, if_pos, Bool.false_eq_true, Bool.not_true, Bool.not_false, Bool.true_or, Bool.false_or, List.isEmpty_nil, List.isEmpty_cons, Option.map_none, hlc, tupU_cells]
def gLb : Sh → Option Res := (fSeq (fSet 6 [] (fCall tupU (fCons (fLc (fRng1 (fCons (fCall lenU (fCons (fVar 2) fNil)) fNil)) (bName 8) (fB (f2 eqU (f2 bandU (f2 shrU (fVar 5) (fVar 8)) (fC (.im (.num 1)))) (fC (.im (.num 1))))) (f2 addU (f2 ixU (fVar 2) (fVar 8)) (fTup (fCons (fC (.im (.num 1))) fNil))) [8]) fNil)))
    (fIfS (fB (f2 eqU (fCallD F__law_box (fCons (fVar 6) fNil)) (fTup (fCons (fC (.im (.num 0))) (fCons (fC (.im (.num 0))) (fCons (f2 subU (fVar 0) (fC (.im (.num 1)))) (fCons (f2 subU (fVar 1) (fC (.im (.num 1)))) fNil))))))) (fApp 3 (fVar 6)) fNext))
theorem gLb_ev {w h : Nat} (hn : w * h ≤ 6) {j : Nat} (hj : j < 2 ^ (w * h) - 1) (found : List (List Cell)) (hf : found.length ≤ 1000) (o4 o6 : Option U) : ∃ o6', gLb (fr9b w h (gr w h) found o4 (some (.im (.num (1 + (j : Int))))) o6) = some (.nx (fr9b w h (gr w h) (keepB w h found j) o4 (some (.im (.num (1 + (j : Int))))) o6')) := by
  have hlen : (gr w h).length = w * h := grid_len 0 0 w h
  have hne : sel (gr w h) (1 + (j : Int)) ≠ [] := sel_ne (by omega) (by rw [hlen]; exact hj)
  have hl : (sel (gr w h) (1 + (j : Int))).length ≤ 6 := Nat.le_trans (sel_len (gr w h) _) (by omega)
  refine ⟨some (.im (bD (sel (gr w h) (1 + (j : Int))))), ?_⟩
  unfold gLb fSeq
  have s1 : fSet 6 [] (fCall tupU (fCons (fLc (fRng1 (fCons (fCall lenU (fCons (fVar 2) fNil)) fNil)) (bName 8) (fB (f2 eqU (f2 bandU (f2 shrU (fVar 5) (fVar 8)) (fC (.im (.num 1)))) (fC (.im (.num 1))))) (f2 addU (f2 ixU (fVar 2) (fVar 8)) (fTup (fCons (fC (.im (.num 1))) fNil))) [8]) fNil)) (fr9b w h (gr w h) found o4 (some (.im (.num (1 + (j : Int))))) o6) = some (.nx (fr9b w h (gr w h) found o4 (some (.im (.num (1 + (j : Int))))) (some (.im (bD (sel (gr w h) (1 + (j : Int)))))))) := by
    unfold fSet
    rw [sel_lc hn, Option.bind_some, if_pos (okAl_nil _ _)]
    rfl
  rw [s1, Option.bind_some]
  dsimp only
  unfold keepB
  generalize sel (gr w h) (1 + (j : Int)) = b at *
  have eb := E__law_box hne (by omega : b.length ≤ 100000)
  simp only [fRet, fU, fAnd, fOr, fB, f1, f2, f3, fSeq, fNext, fIfS, fIf, fC, fSet, fDrop, fItems, itemsU_b, itemsU_ls, itemsU_tup, fTup, fLst, fCons, fConsF, fNil, fCall, fCallD, fNot, fChain, fUnp, fPar, setAllU, fVar_0, fVar_s, Option.bind_some, Option.bind_none, Option.map_some, isB_bl, eqU_im, eqU_ls, eqU_bb, neU_im, neU_ls, neU_bl, ltU_num, gtU_num, leU_num, geU_num, addU_num, subU_num, negU_num, isN_tup, isN_none, notN_tup, notN_none, ims_nil, ims_im, okAl_im, okAl_bl, okAl_nil, okRt_im, okRt_bl, okRt_nil, mut_im, mut_bl, mut_ls, mut_dc, lenU_tup, lenU_ls, tupU_tup, listU_tup, listU_ls, intU_num, ixU_tup, ixU_ls, ixU_dc, cutU_c, ixc0, ixc1, ixc2, ixp0, ixp1, mkTup_2, mkTup_3, mkTup_nil, mkLst_nil, okArgs_im, okArgs_nil, atI_0, atI_1, atI_2, isi_num_int, isi_num_bool, isi_tup_tuple, isi_num_tuple, wipeU, List.set_cons_zero, List.set_cons_succ, List.length_cons, List.length_nil, List.map_cons, List.map_nil, if_true, if_false, if_pos, Bool.false_eq_true, Bool.not_true, Bool.not_false, Bool.true_or, Bool.false_or, List.isEmpty_nil, List.isEmpty_cons, Option.map_none, eb, mkTup_4, nD_dec]
  have ef : decide ([minx b, miny b, maxx b, maxy b] = [0, 0, (w : Int) - 1, (h : Int) - 1]) = fits w h b := by
    unfold fits
    simp only [List.cons.injEq, and_true]
  rw [ef]
  by_cases q : fits w h b = true
  · rw [if_pos q, if_pos q, app_ev (i := 3) (ds := found.map bD) (d := bD b) rfl rfl (by rw [List.length_map]; omega)]
    have e : (found ++ [b]).map bD = found.map bD ++ [bD b] := by rw [List.map_append]; rfl
    unfold fr9b
    rw [e]
    rfl
  · rw [if_neg q, if_neg q]
theorem E__law_box_boards {w h : Nat} (hn : w * h ≤ 6) (hw : w ≤ 6) (hh : h ≤ 6) : F__law_box_boards [.im (.num (w : Int)), .im (.num (h : Int))] = some (.ls ((boxB w h).map bD)) := by
  have hlen : (gr w h).length = w * h := grid_len 0 0 w h
  obtain ⟨p1, p2⟩ := pow6 hn
  obtain ⟨τ1, c1, o4, rfl, _⟩ := loopV_ix (b := bName 4) (g := gCol) (fun (i : Nat) => NestedKey.num (0 + (i : Int))) (fun n l τ => ∃ o4, τ = fr9b w h l [] o4 none none ∧ l.length + 6 * n ≤ 100) (colL h) (List.range w) (fun i _ n l τ ⟨o4, e, hl⟩ => by
    subst e
    refine ⟨_, _, rfl, gCol_ev w h hh l (by omega) i, some (.im (.num (0 + (i : Int)))), rfl, ?_⟩
    rw [colL_len]
    omega) 0 [] (fr9b w h [] [] none none none) ⟨none, rfl, by rw [List.length_range]; show 0 + 6 * (w + 0) ≤ 100; omega⟩
  have eg : (List.range w).foldl (colL h) [] = gr w h := by rw [colL_fold, List.nil_append]; rfl
  rw [eg] at c1
  obtain ⟨τ', h1, o5, o6, rfl, h2⟩ := loopV_ix (b := bName 5) (g := gLb) (fun (j : Nat) => NestedKey.num (1 + (j : Int))) (fun n l τ => ∃ o5 o6, τ = fr9b w h (gr w h) l o4 o5 o6 ∧ l.length + n ≤ 100) (keepB w h) (List.range (2 ^ (w * h) - 1)) (fun j hj n l τ ⟨o5, o6, e, hl⟩ => by
    subst e
    obtain ⟨o6', e1⟩ := gLb_ev hn (List.mem_range.mp hj) l (by omega) o4 o6
    refine ⟨_, _, rfl, e1, some (.im (.num (1 + (j : Int)))), o6', rfl, ?_⟩
    have := keepB_len w h l j
    omega) 0 [] (fr9b w h (gr w h) [] o4 none none) ⟨none, none, rfl, by rw [List.length_range]; show 0 + _ ≤ 100; omega⟩
  unfold F__law_box_boards runG
  show (g__law_box_boards [some (.im (.num (w : Int))), some (.im (.num (h : Int))), none, none, none, none, none, none, none]).bind _ = _
  have e0 : g__law_box_boards = fSeq (fPar [2, 3] (fConsF [] (fLst fNil) (fConsF [] (fLst fNil) fNil))) (fSeq (fFor (fRng1 (fCons (fVar 0) fNil)) (bName 4) gCol) (fSeq (fFor (fRng2 (fCons (fC (.im (.num 1))) (fCons (f2 shlU (fC (.im (.num 1))) (fCall lenU (fCons (fVar 2) fNil))) fNil))) (bName 5) gLb) (fRet [3] [3] (fVar 3)))) := rfl
  rw [e0]
  unfold fSeq
  have s1 : fPar [2, 3] (fConsF [] (fLst fNil) (fConsF [] (fLst fNil) fNil)) [some (.im (.num (w : Int))), some (.im (.num (h : Int))), none, none, none, none, none, none, none] = some (.nx (fr9b w h [] [] none none none)) := by
    simp only [fRet, fU, fAnd, fOr, fB, f1, f2, f3, fSeq, fNext, fIfS, fIf, fC, fSet, fDrop, fItems, itemsU_b, itemsU_ls, itemsU_tup, fTup, fLst, fCons, fConsF, fNil, fCall, fCallD, fNot, fChain, fUnp, fPar, setAllU, fVar_0, fVar_s, Option.bind_some, Option.bind_none, Option.map_some, isB_bl, eqU_im, eqU_ls, eqU_bb, neU_im, neU_ls, neU_bl, ltU_num, gtU_num, leU_num, geU_num, addU_num, subU_num, negU_num, isN_tup, isN_none, notN_tup, notN_none, ims_nil, ims_im, okAl_im, okAl_bl, okAl_nil, okRt_im, okRt_bl, okRt_nil, mut_im, mut_bl, mut_ls, mut_dc, lenU_tup, lenU_ls, tupU_tup, listU_tup, listU_ls, intU_num, ixU_tup, ixU_ls, ixU_dc, cutU_c, ixc0, ixc1, ixc2, ixp0, ixp1, mkTup_2, mkTup_3, mkTup_nil, mkLst_nil, okArgs_im, okArgs_nil, atI_0, atI_1, atI_2, isi_num_int, isi_num_bool, isi_tup_tuple, isi_num_tuple, wipeU, List.set_cons_zero, List.set_cons_succ, List.length_cons, List.length_nil, List.map_cons, List.map_nil, if_true, if_false, if_pos, Bool.false_eq_true, Bool.not_true, Bool.not_false, Bool.true_or, Bool.false_or, List.isEmpty_nil, List.isEmpty_cons, Option.map_none, Bool.or_true]
    rfl
  rw [s1, Option.bind_some]
  dsimp only
  have s2 : fFor (fRng1 (fCons (fVar 0) fNil)) (bName 4) gCol (fr9b w h [] [] none none none) = some (.nx (fr9b w h (gr w h) [] o4 none none)) := by
    unfold fFor
    rw [rng1_ev (k := w) (by omega) (by simp only [fRet, fU, fAnd, fOr, fB, f1, f2, f3, fSeq, fNext, fIfS, fIf, fC, fSet, fDrop, fItems, itemsU_b, itemsU_ls, itemsU_tup, fTup, fLst, fCons, fConsF, fNil, fCall, fCallD, fNot, fChain, fUnp, fPar, setAllU, fVar_0, fVar_s, Option.bind_some, Option.bind_none, Option.map_some, isB_bl, eqU_im, eqU_ls, eqU_bb, neU_im, neU_ls, neU_bl, ltU_num, gtU_num, leU_num, geU_num, addU_num, subU_num, negU_num, isN_tup, isN_none, notN_tup, notN_none, ims_nil, ims_im, okAl_im, okAl_bl, okAl_nil, okRt_im, okRt_bl, okRt_nil, mut_im, mut_bl, mut_ls, mut_dc, lenU_tup, lenU_ls, tupU_tup, listU_tup, listU_ls, intU_num, ixU_tup, ixU_ls, ixU_dc, cutU_c, ixc0, ixc1, ixc2, ixp0, ixp1, mkTup_2, mkTup_3, mkTup_nil, mkLst_nil, okArgs_im, okArgs_nil, atI_0, atI_1, atI_2, isi_num_int, isi_num_bool, isi_tup_tuple, isi_num_tuple, wipeU, List.set_cons_zero, List.set_cons_succ, List.length_cons, List.length_nil, List.map_cons, List.map_nil, if_true, if_false, if_pos, Bool.false_eq_true, Bool.not_true, Bool.not_false, Bool.true_or, Bool.false_or, List.isEmpty_nil, List.isEmpty_cons, Option.map_none]), Option.bind_some]
    exact c1
  rw [s2, Option.bind_some]
  dsimp only
  have s3 : fFor (fRng2 (fCons (fC (.im (.num 1))) (fCons (f2 shlU (fC (.im (.num 1))) (fCall lenU (fCons (fVar 2) fNil))) fNil))) (bName 5) gLb (fr9b w h (gr w h) [] o4 none none) = some (.nx (fr9b w h (gr w h) (boxB w h) o4 o5 o6)) := by
    unfold fFor
    rw [rng2_to (M := 2 ^ (w * h)) p1 (by omega) (by
      simp only [fRet, fU, fAnd, fOr, fB, f1, f2, f3, fSeq, fNext, fIfS, fIf, fC, fSet, fDrop, fItems, itemsU_b, itemsU_ls, itemsU_tup, fTup, fLst, fCons, fConsF, fNil, fCall, fCallD, fNot, fChain, fUnp, fPar, setAllU, fVar_0, fVar_s, Option.bind_some, Option.bind_none, Option.map_some, isB_bl, eqU_im, eqU_ls, eqU_bb, neU_im, neU_ls, neU_bl, ltU_num, gtU_num, leU_num, geU_num, addU_num, subU_num, negU_num, isN_tup, isN_none, notN_tup, notN_none, ims_nil, ims_im, okAl_im, okAl_bl, okAl_nil, okRt_im, okRt_bl, okRt_nil, mut_im, mut_bl, mut_ls, mut_dc, lenU_tup, lenU_ls, tupU_tup, listU_tup, listU_ls, intU_num, ixU_tup, ixU_ls, ixU_dc, cutU_c, ixc0, ixc1, ixc2, ixp0, ixp1, mkTup_2, mkTup_3, mkTup_nil, mkLst_nil, okArgs_im, okArgs_nil, atI_0, atI_1, atI_2, isi_num_int, isi_num_bool, isi_tup_tuple, isi_num_tuple, wipeU, List.set_cons_zero, List.set_cons_succ, List.length_cons, List.length_nil, List.map_cons, List.map_nil, if_true, if_false, if_pos, Bool.false_eq_true, Bool.not_true, Bool.not_false, Bool.true_or, Bool.false_or, List.isEmpty_nil, List.isEmpty_cons, Option.map_none, List.length_map, hlen, shl_ev _ hn]), Option.bind_some]
    exact h1
  rw [s3, Option.bind_some]
  rfl
end VL

set_option Elab.async false
set_option linter.all false
set_option maxRecDepth 100000
set_option maxHeartbeats 400000
/-! VMn: orbits of the boards of a box, and of their forms. -/
namespace VL
open PySem L2 PyProof.Rows

theorem rnd_some {r : Rule} {b : List Cell} : ∀ {n k t : Nat} {m : Pl}, rnd r b n k = some (t, m) → k < t ∧ t ≤ k + n ∧ norm (stN r t b) = norm b ∧ m = (minx (stN r t b) - minx b, miny (stN r t b) - miny b) ∧ ∀ s, k < s → s < t → norm (stN r s b) ≠ norm b
  | 0, k, t, m, h => by cases h
  | n + 1, k, t, m, h => by
    unfold rnd at h
    split at h
    · rename_i q
      cases h
      exact ⟨by omega, by omega, q, rfl, fun s h1 h2 => by omega⟩
    · rename_i q
      obtain ⟨h1, h2, h3, h4, h5⟩ := rnd_some h
      refine ⟨by omega, by omega, h3, h4, fun s s1 s2 => ?_⟩
      by_cases e : s = k + 1
      · subst e; exact q
      · exact h5 s (by omega) s2
theorem rnd_none {r : Rule} {b : List Cell} : ∀ {n k : Nat}, rnd r b n k = none → ∀ s, k < s → s ≤ k + n → norm (stN r s b) ≠ norm b
  | 0, k, h, s, h1, h2 => by omega
  | n + 1, k, h, s, h1, h2 => by
    unfold rnd at h
    split at h
    · cases h
    · rename_i q
      by_cases e : s = k + 1
      · subst e; exact q
      · exact rnd_none h s (by omega) (by omega)
theorem step_nil (r : Rule) : step r [] = [] := rfl
theorem stN_nil (r : Rule) : ∀ k, stN r k [] = []
  | 0 => rfl
  | k + 1 => by show step r (stN r k []) = []; rw [stN_nil r k]; rfl
theorem stN_ne {r : Rule} {b : List Cell} {t j : Nat} (h : stN r t b ≠ []) (hj : j ≤ t) : stN r j b ≠ [] := by
  intro z
  obtain ⟨d, rfl⟩ : ∃ d, t = d + j := ⟨t - j, by omega⟩
  rw [stN_add, z, stN_nil] at h
  exact h rfl
theorem norm_ne {b : List Cell} (h : b ≠ []) : norm b ≠ [] := by
  intro z
  have := norm_len b
  rw [z] at this
  exact h (List.length_eq_zero_iff.mp this.symm)
theorem ne_of_norm {b : List Cell} (h : norm b ≠ []) : b ≠ [] := by
  intro z
  subst z
  exact h rfl
theorem mv_then {t : Nat} {m n : Pl} {a b c : List Cell} (h1 : Mv t m a b) (h2 : Mv 0 n b c) : Mv t (m.1 + n.1, m.2 + n.2) a c := by
  refine ⟨h2.good, fun x => ?_⟩
  rw [h2.mem]
  have key : ∀ d, mv 0 n (mv t m d) = mv t (m.1 + n.1, m.2 + n.2) d := fun d => by
    unfold mv
    refine Prod.ext ?_ (Prod.ext ?_ rfl)
    · show (turnP t (pl d)).1 + m.1 + n.1 = (turnP t (pl d)).1 + (m.1 + n.1); omega
    · show (turnP t (pl d)).2 + m.2 + n.2 = (turnP t (pl d)).2 + (m.2 + n.2); omega
  constructor
  · rintro ⟨y, hy, rfl⟩
    obtain ⟨d, hd, rfl⟩ := (h1.mem y).mp hy
    exact ⟨d, hd, key d⟩
  · rintro ⟨d, hd, rfl⟩
    exact ⟨_, (h1.mem _).mpr ⟨d, hd, rfl⟩, (key d).symm⟩
theorem corner_in {k n : Int} {b : List Cell} (h : Sm k n b) (hn : b ≠ []) : -(k + n) ≤ minx b ∧ minx b ≤ k + n ∧ -(k + n) ≤ miny b ∧ miny b ≤ k + n := by
  obtain ⟨x0, y0, h1, h2, h3, h4, q⟩ := h
  obtain ⟨c, hc, e⟩ := mnF_mem (f := fun c => c.1) hn
  obtain ⟨d, hd, e'⟩ := mnF_mem (f := fun c => c.2.1) hn
  have e : minx b = c.1 := e
  have e' : miny b = d.2.1 := e'
  have := q c hc
  have := q d hd
  omega
/-- a picture of a board: turned, then brought to the corner -/
theorem form_mv (t : Nat) {b : List Cell} (hb : Good b) : ∃ m, Mv t m b (norm (turn t b)) ∧ ∀ k n, 1 ≤ n → Sm k n b → b ≠ [] → Sm (2 * k + 4 * n) n (norm (turn t b)) := by
  have h1 := turn_mv t hb
  have h2 := norm_mv h1.good
  refine ⟨_, mv_then h1 h2, fun k n hn hs hne => ?_⟩
  have s1 := hs.mv hn h1 (j := 0) ⟨by decide, by decide⟩ ⟨by decide, by decide⟩
  have hne2 : turn t b ≠ [] := by
    intro z
    have := turn_len t b
    rw [z] at this
    exact hne (List.length_eq_zero_iff.mp this.symm)
  have c := corner_in s1 hne2
  have s2 := s1.mv hn h2 (j := k + n + n) ⟨by show -(k + n + n) ≤ -minx (turn t b); omega, by show -minx (turn t b) ≤ k + n + n; omega⟩ ⟨by show -(k + n + n) ≤ -miny (turn t b); omega, by show -miny (turn t b) ≤ k + n + n; omega⟩
  exact s2.le (by omega) (Int.le_refl _)
/-- what is known of the boards of a box -/
structure BoxB (w h : Nat) (b : List Cell) : Prop where
  good : Good b
  ne : b ≠ []
  oct : Oct w h 0 b
  sm : Sm 0 4 b
  fit : minx b = 0 ∧ miny b = 0 ∧ maxx b = (w : Int) - 1 ∧ maxy b = (h : Int) - 1
theorem boxB_is {w h : Nat} (hx : (w, h) ∈ boxes) {b : List Cell} (hb : b ∈ boxB w h) : BoxB w h b := by
  have hb' : w ≤ 4 ∧ h ≤ 4 ∧ w * h ≤ 6 := by
    simp only [boxes, List.mem_cons, Prod.mk.injEq, List.not_mem_nil, or_false] at hx
    rcases hx with ⟨rfl, rfl⟩ | ⟨rfl, rfl⟩ | ⟨rfl, rfl⟩ | ⟨rfl, rfl⟩ | ⟨rfl, rfl⟩ | ⟨rfl, rfl⟩ <;> decide
  rcases boxB_mem _ _ _ hb with q | ⟨j, hj, rfl, hf⟩
  · simp at q
  · have hlen : (gr w h).length = w * h := grid_len 0 0 w h
    have cells : ∀ c ∈ sel (gr w h) (1 + (j : Int)), 0 ≤ c.1 ∧ c.1 < (w : Int) ∧ 0 ≤ c.2.1 ∧ c.2.1 < (h : Int) := fun c hc => by
      have := mem_grid.mp (sel_in hc).1
      unfold pl at this
      dsimp only at this
      omega
    refine ⟨sel_good (rise_grid 0 0 w h) _, sel_ne (by omega) (by rw [hlen]; exact List.mem_range.mp hj), fun c hc => ?_, ⟨0, 0, by decide, by decide, by decide, by decide, fun c hc => by have := cells c hc; omega⟩, of_decide_eq_true hf⟩
    have := cells c hc
    unfold OctP pl
    dsimp only
    omega
theorem BoxB.lim {w h : Nat} {b : List Cell} (B : BoxB w h b) {r : Rule} (ok : r.Ok) {i : Nat} (hi : i ≤ 4) : Lim (stN r i b) :=
  (B.sm.stN ok B.good i).lim (stN_good B.good i) (by omega) (by omega) (by omega)
/-- what is known of a form of such a board -/
structure FormB (r : Rule) (f : List Cell) : Prop where
  good : Good f
  ne : f ≠ []
  norm : norm f = f
  lim : ∀ i, i ≤ 4 → Lim (stN r i f)
theorem form_is {w h : Nat} {b : List Cell} (B : BoxB w h b) {r : Rule} (ok : r.Ok) {t most : Nat} {m : Pl} (hm : most ≤ 4) (hr : rnd r b most 0 = some (t, m)) {f : List Cell} (hf : f ∈ formsL (phases r b t)) : FormB r f ∧ ∃ x, rnd r f most 0 = some x := by
  obtain ⟨h1, h2, h3, h4, _⟩ := rnd_some hr
  obtain ⟨c, hc, u, hu, rfl⟩ := formsL_mem.mp hf
  obtain ⟨j, hj, rfl⟩ := List.mem_map.mp hc
  have hj := List.mem_range.mp hj
  have tn : stN r t b ≠ [] := ne_of_norm (by rw [h3]; exact norm_ne B.ne)
  have jn : stN r j b ≠ [] := stN_ne tn (by omega)
  have jg := stN_good (r := r) B.good j
  obtain ⟨n, M, S⟩ := form_mv u jg
  have s1 := S _ _ (by omega) (B.sm.stN ok B.good j) jn
  have fne : VL.norm (turn u (stN r j b)) ≠ [] := by
    refine norm_ne fun z => ?_
    have := turn_len u (stN r j b)
    rw [z] at this
    exact jn (List.length_eq_zero_iff.mp this.symm)
  refine ⟨⟨M.good, fne, norm_norm (turn_mv u jg).good, fun i hi => (s1.stN ok M.good i).lim (stN_good M.good i) (by omega) (by omega) (by omega)⟩, ?_⟩
  have g1 := mv_of_norm B.good (stN_good (r := r) B.good t) h3
  have g2 := comes_round ok B.good g1 M
  have g3 := norm_shift M.good g2
  cases e : rnd r (VL.norm (turn u (stN r j b))) most 0 with
  | some x => exact ⟨x, rfl⟩
  | none => exact absurd g3 (rnd_none e t (by omega) (by omega))
end VL

set_option Elab.async false
set_option linter.all false
set_option maxRecDepth 100000
set_option maxHeartbeats 400000
/-! VMo: stills_in_box, pieces_in_box evaluated. -/
namespace VL
open PySem L2 PyProof.Rows

def unC : D → Cell
  | .tup [.num x, .num y, .num s] => (x, y, s)
  | _ => (0, 0, 0)
def unD : D → List Cell
  | .tup ds => ds.map unC
  | _ => []
theorem unD_b (b : List Cell) : unD (bD b) = b := by
  show (b.map cD).map unC = b
  rw [List.map_map]
  have : unC ∘ cD = id := rfl
  rw [this, List.map_id]
def minF (l : List (List Cell)) : List Cell := unD (minB l)
theorem minF_is {l : List (List Cell)} (h : l ≠ []) : minB l = bD (minF l) ∧ minF l ∈ l := by
  obtain ⟨f, hf, e⟩ := minB_mem h
  have e2 : minF l = f := by unfold minF; rw [e, unD_b]
  rw [e2]
  exact ⟨e, hf⟩
def insF (fs : List (List Cell)) (f : List Cell) : List (List Cell) := if f ∈ fs then fs else fs ++ [f]
theorem mem_insF {fs : List (List Cell)} {f g : List Cell} : g ∈ insF fs f ↔ g = f ∨ g ∈ fs := by
  unfold insF
  by_cases h : f ∈ fs
  · rw [if_pos h]
    constructor
    · exact Or.inr
    · rintro (rfl | z)
      · exact h
      · exact z
  · rw [if_neg h, List.mem_append, List.mem_singleton]
    exact Or.comm
theorem insF_len (fs : List (List Cell)) (f : List Cell) : (insF fs f).length ≤ fs.length + 1 := by
  unfold insF
  split
  · omega
  · rw [List.length_append]; exact Nat.le_refl _
theorem mem_bD {f : List Cell} {fs : List (List Cell)} : bD f ∈ fs.map bD ↔ f ∈ fs := by
  rw [List.mem_map]
  exact ⟨fun ⟨q, hq, e⟩ => bD_inj e ▸ hq, fun h => ⟨f, h, rfl⟩⟩
/-- a dict with boards as keys; what its values are -/
structure DF (V : W → Prop) (kvs : List (D × W)) (fs : List (List Cell)) : Prop where
  keys : kvs.map (·.1) = fs.map bD
  vals : ∀ kv ∈ kvs, V kv.2
theorem DF.nil {V : W → Prop} : DF V [] [] := ⟨rfl, fun _ h => by simp at h⟩
theorem look_keys {kvs : List (D × W)} {k : D} : (lookD kvs k).isSome = decide (k ∈ kvs.map (·.1)) := by
  unfold lookD
  rw [Option.isSome_map]
  by_cases h : k ∈ kvs.map (·.1)
  · rw [decide_eq_true h, List.find?_isSome]
    obtain ⟨kv, hkv, e⟩ := List.mem_map.mp h
    exact ⟨kv, hkv, decide_eq_true e⟩
  · rw [decide_eq_false h]
    cases q : kvs.find? fun kv => decide (kv.1 = k) with
    | none => rfl
    | some kv =>
      have h1 := List.mem_of_find?_eq_some q
      have h2 := List.find?_some q
      have h2 : kv.1 = k := by simpa using h2
      exact absurd (List.mem_map.mpr ⟨kv, h1, h2⟩) h
theorem DF.look {V : W → Prop} {kvs : List (D × W)} {fs : List (List Cell)} (h : DF V kvs fs) {f : List Cell} (hf : f ∈ fs) : ∃ w, lookD kvs (bD f) = some w ∧ V w := by
  have q : (lookD kvs (bD f)).isSome = true := by rw [look_keys, h.keys]; exact decide_eq_true (mem_bD.mpr hf)
  obtain ⟨w, e⟩ := Option.isSome_iff_exists.mp q
  refine ⟨w, e, ?_⟩
  unfold lookD at e
  obtain ⟨kv, e1, rfl⟩ := Option.map_eq_some_iff.mp e
  exact h.vals kv (List.mem_of_find?_eq_some e1)
theorem DF.miss {V : W → Prop} {kvs : List (D × W)} {fs : List (List Cell)} (h : DF V kvs fs) {f : List Cell} (hf : f ∉ fs) : lookD kvs (bD f) = none := by
  have q : (lookD kvs (bD f)).isSome = false := by rw [look_keys, h.keys]; exact decide_eq_false fun z => hf (mem_bD.mp z)
  cases e : lookD kvs (bD f) with
  | none => rfl
  | some w => rw [e] at q; cases q
theorem DF.sto {V : W → Prop} {kvs : List (D × W)} {fs : List (List Cell)} (h : DF V kvs fs) (f : List Cell) {w : W} (hw : V w) : DF V (stoD kvs (bD f) w) (insF fs f) := by
  by_cases hf : f ∈ fs
  · obtain ⟨w0, e0, _⟩ := h.look hf
    unfold stoD insF
    rw [if_pos hf, if_pos (by rw [e0]; rfl)]
    refine ⟨?_, fun kv hkv => ?_⟩
    · rw [List.map_map, ← h.keys]
      refine List.map_congr_left fun kv _ => ?_
      show (if kv.1 = bD f then (kv.1, w) else kv).1 = kv.1
      split <;> rfl
    · obtain ⟨kv0, h0, rfl⟩ := List.mem_map.mp hkv
      split
      · exact hw
      · exact h.vals kv0 h0
  · have e0 := h.miss hf
    unfold stoD insF
    rw [if_neg hf, if_neg (by rw [e0]; exact Bool.false_ne_true)]
    refine ⟨?_, fun kv hkv => ?_⟩
    · rw [List.map_append, List.map_append, h.keys]
      rfl
    · rcases List.mem_append.mp hkv with q | q
      · exact h.vals kv q
      · rw [List.mem_singleton] at q
        subst q
        exact hw
theorem DF.len {V : W → Prop} {kvs : List (D × W)} {fs : List (List Cell)} (h : DF V kvs fs) : kvs.length = fs.length := by
  have := congrArg List.length h.keys
  rw [List.length_map, List.length_map] at this
  exact this
theorem stoF_ev {i : Nat} {fe fk : Sh → Option U} {τ : Sh} {kvs : List (D × W)} {f : List Cell} {d : D} (h1 : fe τ = some (.im d)) (h2 : fVar i τ = some (.dc kvs)) (h3 : fk τ = some (.im (bD f))) (hl : kvs.length ≤ 1000000) : fSto i fe fk τ = some (.nx (τ.set i (some (.dc (stoD kvs (bD f) (.k d)))))) := by
  unfold fSto
  rw [h1, Option.bind_some, show wOf (.im d) = some (.k d) from rfl, Option.bind_some, h2, Option.bind_some, h3, Option.bind_some]
  show (if kvs.length < sizeLine then _ else none) = _
  rw [if_pos (lt_size hl)]
  rfl
/-- sorted keys -/
def srtF (fs : List (List Cell)) : List (List Cell) := fs.mergeSort fun a b => !ltD (bD b) (bD a)
theorem mem_srtF {fs : List (List Cell)} {f : List Cell} : f ∈ srtF fs ↔ f ∈ fs := by unfold srtF; exact List.mem_mergeSort
theorem srtF_len (fs : List (List Cell)) : (srtF fs).length = fs.length := by unfold srtF; rw [List.length_mergeSort]
theorem srtOk_b {fs : List (List Cell)} (h : ∀ f ∈ fs, f ≠ []) : SrtOk (fs.map bD) := ⟨fun x hx y hy => by
  obtain ⟨a, _, rfl⟩ := List.mem_map.mp hx
  obtain ⟨b, _, rfl⟩ := List.mem_map.mp hy
  exact alD_bD a b, Or.inl fun x hx => by
  obtain ⟨a, ha, rfl⟩ := List.mem_map.mp hx
  cases a with
  | nil => exact absurd rfl (h _ ha)
  | cons c a => rfl⟩
theorem srtU_b {fs : List (List Cell)} (h : ∀ f ∈ fs, f ≠ []) : srtU [.ls (fs.map bD)] = some (.ls ((srtF fs).map bD)) := by
  show (if SrtOk (fs.map bD) then some (U.ls (srtD (fs.map bD))) else none) = _
  rw [if_pos (srtOk_b h), srtD_map]
  rfl
theorem sk_ev {V : W → Prop} {kvs : List (D × W)} {fs : List (List Cell)} (h : DF V kvs fs) (hn : ∀ f ∈ fs, f ≠ []) {i : Nat} {τ : Sh} (hv : fVar i τ = some (.dc kvs)) : fSK (fVar i) τ = some (.ls ((srtF fs).map bD)) := by
  unfold fSK
  rw [hv, Option.bind_some, show keysU (.dc kvs) = some (kvs.map (·.1)) from rfl, Option.bind_some, h.keys, if_pos (srtOk_b hn), srtD_map]
  rfl
/-! ### the program's search -/
def keyF (r : Rule) (most : Nat) (fs : List (List Cell)) (b : List Cell) : List (List Cell) := match rnd r b most 0 with
  | none => fs
  | some (t, _) => insF fs (minF (formsL (phases r b t)))
def isTm (w : W) : Prop := ∃ (t : Nat) (m : Pl), w = .k (tmD t m)
theorem notN_tm (t : Nat) (m : Pl) : notNU (.im (tmD t m)) = some (.bl true) := rfl
theorem tm0 (t : Nat) (m : Pl) : ixU (.im (tmD t m)) (.im (.num 0)) = some (.im (.num (t : Int))) := (ixU_tup _ _).trans (by rw [atI_0]; rfl)
theorem tm1 (t : Nat) (m : Pl) : ixU (.im (tmD t m)) (.im (.num 1)) = some (.im (pD m)) := (ixU_tup _ _).trans (by rw [atI_1]; rfl)
theorem mkTup_tm (t : Nat) (m : Pl) : mkTup [.num (t : Int), pD m] = some (.im (tmD t m)) := mkTup_np t m
theorem alD_tm (t : Nat) (m : Pl) (u : Nat) (n : Pl) : alD (tmD t m) (tmD u n) = true := by
  unfold alD tmD pD
  simp only [NestedKey.data, NestedKey.datas, PySem.W.alike, PySem.W.alikeAll]
  rfl
theorem ltU_tm (t : Nat) (m : Pl) (u : Nat) (n : Pl) : ∃ b, ltU (.im (tmD t m)) (.im (tmD u n)) = some (.bl b) := ⟨_, by rw [ltU_im, if_pos ⟨alD_tm t m u n, rfl⟩]⟩
theorem dec_round (x : Option (Nat × Pl)) (t : Nat) (m : Pl) : decide (roundD x = tmD t m) = decide (x = some (t, m)) := by
  cases x with
  | none =>
    rw [decide_eq_false (p := roundD none = tmD t m), decide_eq_false (p := none = some (t, m))]
    · intro h; cases h
    · intro h; cases h
  | some y =>
    obtain ⟨u, n⟩ := y
    by_cases h : u = t ∧ n = m
    · rw [h.1, h.2, decide_eq_true (show roundD (some (t, m)) = tmD t m from rfl), decide_eq_true rfl]
    · rw [decide_eq_false (p := roundD (some (u, n)) = tmD t m), decide_eq_false (p := some (u, n) = some (t, m))]
      · intro q; cases q; exact h ⟨rfl, rfl⟩
      · intro q
        have q := NestedKey.tup.inj q
        simp only [List.cons.injEq, NestedKey.num.injEq, and_true] at q
        exact h ⟨by omega, pD_inj q.2⟩
def gPc : Sh → Option Res := (fSeq (fSet 6 [] (fCallD F_round_in (fCons (fVar 0) (fCons (fVar 5) (fCons (fVar 3) fNil)))))
    (fIfS (fB (f1 notNU (fVar 6))) (fSeq (fSet 7 [] (fCallD F_form_in (fCons (fVar 0) (fCons (fTup (fCons (fVar 5) (fCons (f2 ixU (fVar 6) (fC (.im (.num 0)))) (fCons (f2 ixU (fVar 6) (fC (.im (.num 1)))) fNil)))) fNil))))
    (fIfS (fOr (fB (f2 ninU (fVar 7) (fVar 4))) (fB (f2 ltU (fTup (fCons (f2 ixU (fVar 6) (fC (.im (.num 0)))) (fCons (f2 ixU (fVar 6) (fC (.im (.num 1)))) fNil))) (f2 ixU (fVar 4) (fVar 7))))) (fSto 4 (fVar 6) (fVar 7)) fNext)) fNext))
abbrev fr8p (r : Rule) (w h most : Nat) (kvs : List (D × W)) (o5 o6 o7 : Option U) : Sh := [some (.im (rD r)), some (.im (.num (w : Int))), some (.im (.num (h : Int))), some (.im (.num (most : Int))), some (.dc kvs), o5, o6, o7]
theorem inU_b (kvs : List (D × W)) (f : List Cell) : inU (.im (bD f)) (.dc kvs) = some (.bl (lookD kvs (bD f)).isSome) := rfl
theorem ixU_b (kvs : List (D × W)) (f : List Cell) : ixU (.dc kvs) (.im (bD f)) = (lookD kvs (bD f)).map wU := rfl
theorem gPc_ev {r : Rule} (ok : r.Ok) {w h : Nat} {b : List Cell} (B : BoxB w h b) {most : Nat} (hm : most ≤ 4) {kvs : List (D × W)} {fs : List (List Cell)} (F : DF isTm kvs fs) (hl : fs.length ≤ 1000) (o6 o7 : Option U) :
    ∃ kvs' o6' o7', gPc (fr8p r w h most kvs (some (.im (bD b))) o6 o7) = some (.nx (fr8p r w h most kvs' (some (.im (bD b))) o6' o7')) ∧ DF isTm kvs' (keyF r most fs b) := by
  have e1 := E_round_in ok (b := b) (most := most) (by omega) fun i hi => B.lim ok (by omega)
  have hkl := F.len
  unfold gPc keyF
  cases q : rnd r b most 0 with
  | none =>
    rw [q] at e1
    refine ⟨kvs, some (.im .none), o7, ?_, F⟩
    simp only [fRet, fU, fAnd, fOr, fB, f1, f2, f3, fSeq, fNext, fIfS, fIf, fC, fSet, fDrop, fItems, itemsU_b, itemsU_ls, itemsU_tup, fTup, fLst, fCons, fConsF, fNil, fCall, fCallD, fNot, fChain, fUnp, fPar, setAllU, fVar_0, fVar_s, Option.bind_some, Option.bind_none, Option.map_some, isB_bl, eqU_im, eqU_ls, eqU_bb, neU_im, neU_ls, neU_bl, ltU_num, gtU_num, leU_num, geU_num, addU_num, subU_num, negU_num, isN_tup, isN_none, notN_tup, notN_none, ims_nil, ims_im, okAl_im, okAl_bl, okAl_nil, okRt_im, okRt_bl, okRt_nil, mut_im, mut_bl, mut_ls, mut_dc, lenU_tup, lenU_ls, tupU_tup, listU_tup, listU_ls, intU_num, ixU_tup, ixU_ls, ixU_dc, cutU_c, ixc0, ixc1, ixc2, ixp0, ixp1, mkTup_2, mkTup_3, mkTup_nil, mkLst_nil, okArgs_im, okArgs_nil, atI_0, atI_1, atI_2, isi_num_int, isi_num_bool, isi_tup_tuple, isi_num_tuple, wipeU, List.set_cons_zero, List.set_cons_succ, List.length_cons, List.length_nil, List.map_cons, List.map_nil, if_true, if_false, if_pos, Bool.false_eq_true, Bool.not_true, Bool.not_false, Bool.true_or, Bool.false_or, List.isEmpty_nil, List.isEmpty_cons, Option.map_none, e1, roundD]
  | some x =>
    obtain ⟨t, m⟩ := x
    obtain ⟨h1, h2, _⟩ := rnd_some q
    rw [q] at e1
    have hne : phases r b t ≠ [] := by
      intro z
      have : (phases r b t).length = t := by unfold phases; simp
      rw [z] at this
      simp at this
      omega
    obtain ⟨m1, m2⟩ := minF_is (formsL_ne hne)
    have e2 := E_form_in ok (b := b) m h1 (by omega : t ≤ 1000) fun i hi => B.lim ok (by omega)
    rw [m1] at e2
    dsimp only
    generalize minF (formsL (phases r b t)) = f at *
    have e1 : F_round_in [.im (rD r), .im (bD b), .im (.num (most : Int))] = some (.im (tmD t m)) := e1
    by_cases hf : f ∈ fs
    · obtain ⟨w0, k1, u, n, rfl⟩ := F.look hf
      obtain ⟨bb, k2⟩ := ltU_tm t m u n
      have F' := F.sto f (w := .k (tmD t m)) ⟨t, m, rfl⟩
      have k3 : ninU (.im (bD f)) (.dc kvs) = some (.bl false) := by unfold ninU; rw [inU_b, k1]; rfl
      have k4 : ixU (.dc kvs) (.im (bD f)) = some (.im (tmD u n)) := by rw [ixU_b, k1]; rfl
      have ei : insF fs f = fs := by unfold insF; rw [if_pos hf]
      cases bb with
      | true =>
        refine ⟨stoD kvs (bD f) (.k (tmD t m)), some (.im (tmD t m)), some (.im (bD f)), ?_, F'⟩
        simp only [fRet, fU, fAnd, fOr, fB, f1, f2, f3, fSeq, fNext, fIfS, fIf, fC, fSet, fDrop, fItems, itemsU_b, itemsU_ls, itemsU_tup, fTup, fLst, fCons, fConsF, fNil, fCall, fCallD, fNot, fChain, fUnp, fPar, setAllU, fVar_0, fVar_s, Option.bind_some, Option.bind_none, Option.map_some, isB_bl, eqU_im, eqU_ls, eqU_bb, neU_im, neU_ls, neU_bl, ltU_num, gtU_num, leU_num, geU_num, addU_num, subU_num, negU_num, isN_tup, isN_none, notN_tup, notN_none, ims_nil, ims_im, okAl_im, okAl_bl, okAl_nil, okRt_im, okRt_bl, okRt_nil, mut_im, mut_bl, mut_ls, mut_dc, lenU_tup, lenU_ls, tupU_tup, listU_tup, listU_ls, intU_num, ixU_tup, ixU_ls, ixU_dc, cutU_c, ixc0, ixc1, ixc2, ixp0, ixp1, mkTup_2, mkTup_3, mkTup_nil, mkLst_nil, okArgs_im, okArgs_nil, atI_0, atI_1, atI_2, isi_num_int, isi_num_bool, isi_tup_tuple, isi_num_tuple, wipeU, List.set_cons_zero, List.set_cons_succ, List.length_cons, List.length_nil, List.map_cons, List.map_nil, if_true, if_false, if_pos, Bool.false_eq_true, Bool.not_true, Bool.not_false, Bool.true_or, Bool.false_or, List.isEmpty_nil, List.isEmpty_cons, Option.map_none, e1, notN_tm, tm0, tm1, mkTup_pi, e2, k3, k4, mkTup_tm, k2]
        rw [stoF_ev (kvs := kvs) (f := f) (d := tmD t m) rfl rfl rfl (by omega)]
        rfl
      | false =>
        refine ⟨kvs, some (.im (tmD t m)), some (.im (bD f)), ?_, by show DF isTm kvs (insF fs f); rw [ei]; exact F⟩
        simp only [fRet, fU, fAnd, fOr, fB, f1, f2, f3, fSeq, fNext, fIfS, fIf, fC, fSet, fDrop, fItems, itemsU_b, itemsU_ls, itemsU_tup, fTup, fLst, fCons, fConsF, fNil, fCall, fCallD, fNot, fChain, fUnp, fPar, setAllU, fVar_0, fVar_s, Option.bind_some, Option.bind_none, Option.map_some, isB_bl, eqU_im, eqU_ls, eqU_bb, neU_im, neU_ls, neU_bl, ltU_num, gtU_num, leU_num, geU_num, addU_num, subU_num, negU_num, isN_tup, isN_none, notN_tup, notN_none, ims_nil, ims_im, okAl_im, okAl_bl, okAl_nil, okRt_im, okRt_bl, okRt_nil, mut_im, mut_bl, mut_ls, mut_dc, lenU_tup, lenU_ls, tupU_tup, listU_tup, listU_ls, intU_num, ixU_tup, ixU_ls, ixU_dc, cutU_c, ixc0, ixc1, ixc2, ixp0, ixp1, mkTup_2, mkTup_3, mkTup_nil, mkLst_nil, okArgs_im, okArgs_nil, atI_0, atI_1, atI_2, isi_num_int, isi_num_bool, isi_tup_tuple, isi_num_tuple, wipeU, List.set_cons_zero, List.set_cons_succ, List.length_cons, List.length_nil, List.map_cons, List.map_nil, if_true, if_false, if_pos, Bool.false_eq_true, Bool.not_true, Bool.not_false, Bool.true_or, Bool.false_or, List.isEmpty_nil, List.isEmpty_cons, Option.map_none, e1, notN_tm, tm0, tm1, mkTup_pi, e2, k3, k4, mkTup_tm, k2]
    · have k1 := F.miss hf
      have k3 : ninU (.im (bD f)) (.dc kvs) = some (.bl true) := by unfold ninU; rw [inU_b, k1]; rfl
      refine ⟨stoD kvs (bD f) (.k (tmD t m)), some (.im (tmD t m)), some (.im (bD f)), ?_, F.sto f ⟨t, m, rfl⟩⟩
      simp only [fRet, fU, fAnd, fOr, fB, f1, f2, f3, fSeq, fNext, fIfS, fIf, fC, fSet, fDrop, fItems, itemsU_b, itemsU_ls, itemsU_tup, fTup, fLst, fCons, fConsF, fNil, fCall, fCallD, fNot, fChain, fUnp, fPar, setAllU, fVar_0, fVar_s, Option.bind_some, Option.bind_none, Option.map_some, isB_bl, eqU_im, eqU_ls, eqU_bb, neU_im, neU_ls, neU_bl, ltU_num, gtU_num, leU_num, geU_num, addU_num, subU_num, negU_num, isN_tup, isN_none, notN_tup, notN_none, ims_nil, ims_im, okAl_im, okAl_bl, okAl_nil, okRt_im, okRt_bl, okRt_nil, mut_im, mut_bl, mut_ls, mut_dc, lenU_tup, lenU_ls, tupU_tup, listU_tup, listU_ls, intU_num, ixU_tup, ixU_ls, ixU_dc, cutU_c, ixc0, ixc1, ixc2, ixp0, ixp1, mkTup_2, mkTup_3, mkTup_nil, mkLst_nil, okArgs_im, okArgs_nil, atI_0, atI_1, atI_2, isi_num_int, isi_num_bool, isi_tup_tuple, isi_num_tuple, wipeU, List.set_cons_zero, List.set_cons_succ, List.length_cons, List.length_nil, List.map_cons, List.map_nil, if_true, if_false, if_pos, Bool.false_eq_true, Bool.not_true, Bool.not_false, Bool.true_or, Bool.false_or, List.isEmpty_nil, List.isEmpty_cons, Option.map_none, e1, notN_tm, tm0, tm1, mkTup_pi, e2, k3]
      rw [stoF_ev (kvs := kvs) (f := f) (d := tmD t m) rfl rfl rfl (by omega)]
      rfl
end VL

set_option Elab.async false
set_option linter.all false
set_option maxRecDepth 100000
set_option maxHeartbeats 400000
/-! VMp: the search's answers. -/
namespace VL
open PySem L2 PyProof.Rows

theorem box_small {w h : Nat} (hx : (w, h) ∈ boxes) : 1 ≤ w ∧ w ≤ 4 ∧ 1 ≤ h ∧ h ≤ 4 ∧ w * h ≤ 6 := by
  simp only [boxes, List.mem_cons, Prod.mk.injEq, List.not_mem_nil, or_false] at hx
  rcases hx with ⟨rfl, rfl⟩ | ⟨rfl, rfl⟩ | ⟨rfl, rfl⟩ | ⟨rfl, rfl⟩ | ⟨rfl, rfl⟩ | ⟨rfl, rfl⟩ <;> decide
theorem E_box_ok {w h : Nat} (hx : (w, h) ∈ boxes) {most : Nat} (h1 : 1 ≤ most) (h2 : most ≤ 4) : F_need_box [.im (.num (w : Int)), .im (.num (h : Int)), .im (.num (most : Int))] = some (.im .none) := by
  obtain ⟨a, b, c, d, e⟩ := box_small hx
  refine E_need_box ⟨by omega, by omega⟩ ⟨by omega, by omega⟩ ⟨by omega, by omega⟩ ?_
  have : ((w * h : Nat) : Int) ≤ 6 := by omega
  rw [Int.natCast_mul] at this
  omega
def formsOf (r : Rule) (w h most : Nat) : List (List Cell) := (boxB w h).foldl (keyF r most) []
theorem keyF_mem {r : Rule} {most : Nat} : ∀ (bs : List (List Cell)) (fs : List (List Cell)) (f : List Cell), f ∈ bs.foldl (keyF r most) fs → f ∈ fs ∨ ∃ b ∈ bs, ∃ t m, rnd r b most 0 = some (t, m) ∧ f ∈ formsL (phases r b t)
  | [], fs, f, h => .inl h
  | b :: bs, fs, f, h => by
    rcases keyF_mem bs _ f h with q | ⟨c, hc, q⟩
    · unfold keyF at q
      split at q
      · exact .inl q
      · rename_i t m e
        rcases mem_insF.mp q with rfl | q
        · refine .inr ⟨b, List.mem_cons_self, t, m, e, (minF_is (formsL_ne ?_)).2⟩
          obtain ⟨h1, _⟩ := rnd_some e
          intro z
          have : (phases r b t).length = t := by unfold phases; simp
          rw [z] at this
          simp at this
          omega
        · exact .inl q
    · exact .inr ⟨c, List.mem_cons_of_mem _ hc, q⟩
theorem formsOf_is {r : Rule} (ok : r.Ok) {w h most : Nat} (hx : (w, h) ∈ boxes) (hm : most ≤ 4) {f : List Cell} (hf : f ∈ formsOf r w h most) : FormB r f ∧ ∃ x, rnd r f most 0 = some x := by
  rcases keyF_mem _ _ f hf with q | ⟨b, hb, t, m, e, q⟩
  · simp at q
  · exact form_is (boxB_is hx hb) ok hm e q
theorem keyF_len (r : Rule) (most : Nat) (fs : List (List Cell)) (b : List Cell) : (keyF r most fs b).length ≤ fs.length + 1 := by
  unfold keyF
  split
  · omega
  · exact insF_len _ _
def pcOut (f : List Cell) : Option (Nat × Pl) → D
  | some (t, m) => .tup [bD f, .num (t : Int), pD m]
  | none => .none
theorem depth_pc (f : List Cell) (x : Option (Nat × Pl)) : (pcOut f x).depth ≤ 4 := by
  cases x with
  | none => simp [pcOut, NestedKey.depth]
  | some y =>
    obtain ⟨t, m⟩ := y
    refine depth_tup (depthAll_le fun d hd => ?_)
    simp only [List.mem_cons, List.not_mem_nil, or_false] at hd
    have := depth_bD f
    have := depth_pD m
    rcases hd with rfl | rfl | rfl
    · omega
    · simp [NestedKey.depth]
    · omega
def piecesD (r : Rule) (w h most : Nat) : D := .tup ((srtF (formsOf r w h most)).map fun f => pcOut f (rnd r f most 0))
theorem mkTup_b (f : List Cell) : mkTup [bD f] = some (.im (.tup [bD f])) := mkTup_ok (fun d hd => by
  simp only [List.mem_singleton] at hd
  subst hd
  have := depth_bD f
  omega) (by simp)
theorem items_call2 {F : List U → Option U} {τ : Sh} {i j : Nat} {x y : D} {X : List D} (h1 : fVar i τ = some (.im x)) (h2 : fVar j τ = some (.im y)) (eb : F [.im x, .im y] = some (.ls X)) : fItems (fCallD F (fCons (fVar i) (fCons (fVar j) fNil))) τ = some X := by
  simp only [fRet, fU, fAnd, fOr, fB, f1, f2, f3, fSeq, fNext, fIfS, fIf, fC, fSet, fDrop, fItems, itemsU_b, itemsU_ls, itemsU_tup, fTup, fLst, fCons, fConsF, fNil, fCall, fCallD, fNot, fChain, fUnp, fPar, setAllU, fVar_0, fVar_s, Option.bind_some, Option.bind_none, Option.map_some, isB_bl, eqU_im, eqU_ls, eqU_bb, neU_im, neU_ls, neU_bl, ltU_num, gtU_num, leU_num, geU_num, addU_num, subU_num, negU_num, isN_tup, isN_none, notN_tup, notN_none, ims_nil, ims_im, okAl_im, okAl_bl, okAl_nil, okRt_im, okRt_bl, okRt_nil, mut_im, mut_bl, mut_ls, mut_dc, lenU_tup, lenU_ls, tupU_tup, listU_tup, listU_ls, intU_num, ixU_tup, ixU_ls, ixU_dc, cutU_c, ixc0, ixc1, ixc2, ixp0, ixp1, mkTup_2, mkTup_3, mkTup_nil, mkLst_nil, okArgs_im, okArgs_nil, atI_0, atI_1, atI_2, isi_num_int, isi_num_bool, isi_tup_tuple, isi_num_tuple, wipeU, List.set_cons_zero, List.set_cons_succ, List.length_cons, List.length_nil, List.map_cons, List.map_nil, if_true, if_false, if_pos, Bool.false_eq_true, Bool.not_true, Bool.not_false, Bool.true_or, Bool.false_or, List.isEmpty_nil, List.isEmpty_cons, Option.map_none, h1, h2, eb]
theorem E_pieces_in_box {r : Rule} (ok : r.Ok) {w h most : Nat} (hx : (w, h) ∈ boxes) (h1 : 1 ≤ most) (h2 : most ≤ 4) : F_pieces_in_box [.im (rD r), .im (.num (w : Int)), .im (.num (h : Int)), .im (.num (most : Int))] = some (.im (piecesD r w h most)) := by
  obtain ⟨b1, b2, b3, b4, b5⟩ := box_small hx
  obtain ⟨eb, lb⟩ := E_boards_in (w := w) (h := h) b5 (by omega) (by omega)
  obtain ⟨τ', l1, kvs, o5, o6, o7, rfl, F, fl⟩ := loopV_ix (b := bName 5) (g := gPc) bD (fun n fs τ => ∃ kvs o5 o6 o7, τ = fr8p r w h most kvs o5 o6 o7 ∧ DF isTm kvs fs ∧ fs.length + n ≤ 100) (keyF r most) (boxB w h) (fun b hb n fs τ ⟨kvs, o5, o6, o7, e, F, hl⟩ => by
    subst e
    obtain ⟨kvs', o6', o7', e1, F'⟩ := gPc_ev ok (boxB_is hx hb) h2 F (by omega) o6 o7
    refine ⟨_, _, rfl, e1, kvs', some (.im (bD b)), o6', o7', rfl, F', ?_⟩
    have := keyF_len r most fs b
    omega) 0 [] (fr8p r w h most [] none none none) ⟨[], none, none, none, rfl, DF.nil, by show 0 + ((boxB w h).length + 0) ≤ 100; omega⟩
  have F : DF isTm kvs (formsOf r w h most) := F
  have fl : (formsOf r w h most).length + 0 ≤ 100 := fl
  unfold F_pieces_in_box runG
  show (g_pieces_in_box [some (.im (rD r)), some (.im (.num (w : Int))), some (.im (.num (h : Int))), some (.im (.num (most : Int))), none, none, none, none]).bind _ = _
  have e0 : g_pieces_in_box = fSeq (fDrop (fCallD F_need_rule (fCons (fVar 0) fNil))) (fSeq (fDrop (fCallD F_need_box (fCons (fVar 1) (fCons (fVar 2) (fCons (fVar 3) fNil))))) (fSeq (fSet 4 [] (fC (.dc []))) (fSeq (fFor (fItems (fCallD F_boards_in (fCons (fVar 1) (fCons (fVar 2) fNil)))) (bName 5) gPc) (fRet [4] [] (fCall tupU (fCons (fLc (fItems (fSK (fVar 4))) (bName 7) fYes (f2 addU (fTup (fCons (fVar 7) fNil)) (fCallD F_round_in (fCons (fVar 0) (fCons (fVar 7) (fCons (fVar 3) fNil))))) [7]) fNil)))))) := rfl
  have s1 : fDrop (fCallD F_need_rule (fCons (fVar 0) fNil)) [some (.im (rD r)), some (.im (.num (w : Int))), some (.im (.num (h : Int))), some (.im (.num (most : Int))), none, none, none, none] = some (.nx [some (.im (rD r)), some (.im (.num (w : Int))), some (.im (.num (h : Int))), some (.im (.num (most : Int))), none, none, none, none]) := by
    simp only [fRet, fU, fAnd, fOr, fB, f1, f2, f3, fSeq, fNext, fIfS, fIf, fC, fSet, fDrop, fItems, itemsU_b, itemsU_ls, itemsU_tup, fTup, fLst, fCons, fConsF, fNil, fCall, fCallD, fNot, fChain, fUnp, fPar, setAllU, fVar_0, fVar_s, Option.bind_some, Option.bind_none, Option.map_some, isB_bl, eqU_im, eqU_ls, eqU_bb, neU_im, neU_ls, neU_bl, ltU_num, gtU_num, leU_num, geU_num, addU_num, subU_num, negU_num, isN_tup, isN_none, notN_tup, notN_none, ims_nil, ims_im, okAl_im, okAl_bl, okAl_nil, okRt_im, okRt_bl, okRt_nil, mut_im, mut_bl, mut_ls, mut_dc, lenU_tup, lenU_ls, tupU_tup, listU_tup, listU_ls, intU_num, ixU_tup, ixU_ls, ixU_dc, cutU_c, ixc0, ixc1, ixc2, ixp0, ixp1, mkTup_2, mkTup_3, mkTup_nil, mkLst_nil, okArgs_im, okArgs_nil, atI_0, atI_1, atI_2, isi_num_int, isi_num_bool, isi_tup_tuple, isi_num_tuple, wipeU, List.set_cons_zero, List.set_cons_succ, List.length_cons, List.length_nil, List.map_cons, List.map_nil, if_true, if_false, if_pos, Bool.false_eq_true, Bool.not_true, Bool.not_false, Bool.true_or, Bool.false_or, List.isEmpty_nil, List.isEmpty_cons, Option.map_none, E_need_rule ok]
  have s2 : fDrop (fCallD F_need_box (fCons (fVar 1) (fCons (fVar 2) (fCons (fVar 3) fNil)))) [some (.im (rD r)), some (.im (.num (w : Int))), some (.im (.num (h : Int))), some (.im (.num (most : Int))), none, none, none, none] = some (.nx [some (.im (rD r)), some (.im (.num (w : Int))), some (.im (.num (h : Int))), some (.im (.num (most : Int))), none, none, none, none]) := by
    simp only [fRet, fU, fAnd, fOr, fB, f1, f2, f3, fSeq, fNext, fIfS, fIf, fC, fSet, fDrop, fItems, itemsU_b, itemsU_ls, itemsU_tup, fTup, fLst, fCons, fConsF, fNil, fCall, fCallD, fNot, fChain, fUnp, fPar, setAllU, fVar_0, fVar_s, Option.bind_some, Option.bind_none, Option.map_some, isB_bl, eqU_im, eqU_ls, eqU_bb, neU_im, neU_ls, neU_bl, ltU_num, gtU_num, leU_num, geU_num, addU_num, subU_num, negU_num, isN_tup, isN_none, notN_tup, notN_none, ims_nil, ims_im, okAl_im, okAl_bl, okAl_nil, okRt_im, okRt_bl, okRt_nil, mut_im, mut_bl, mut_ls, mut_dc, lenU_tup, lenU_ls, tupU_tup, listU_tup, listU_ls, intU_num, ixU_tup, ixU_ls, ixU_dc, cutU_c, ixc0, ixc1, ixc2, ixp0, ixp1, mkTup_2, mkTup_3, mkTup_nil, mkLst_nil, okArgs_im, okArgs_nil, atI_0, atI_1, atI_2, isi_num_int, isi_num_bool, isi_tup_tuple, isi_num_tuple, wipeU, List.set_cons_zero, List.set_cons_succ, List.length_cons, List.length_nil, List.map_cons, List.map_nil, if_true, if_false, if_pos, Bool.false_eq_true, Bool.not_true, Bool.not_false, Bool.true_or, Bool.false_or, List.isEmpty_nil, List.isEmpty_cons, Option.map_none, E_box_ok hx h1 h2]
  have s4 : fFor (fItems (fCallD F_boards_in (fCons (fVar 1) (fCons (fVar 2) fNil)))) (bName 5) gPc (fr8p r w h most [] none none none) = some (.nx (fr8p r w h most kvs o5 o6 o7)) := by
    unfold fFor
    rw [show fItems (fCallD F_boards_in (fCons (fVar 1) (fCons (fVar 2) fNil))) (fr8p r w h most [] none none none) = some ((boxB w h).map bD) from items_call2 rfl rfl eb, Option.bind_some]
    exact l1
  have hn : ∀ f ∈ formsOf r w h most, f ≠ [] := fun f hf => (formsOf_is ok hx h2 hf).1.ne
  have sk := sk_ev F hn (i := 4) (τ := fr8p r w h most kvs o5 o6 o7) rfl
  have e5 := lcGo_all (b := bName 7) (fe := f2 addU (fTup (fCons (fVar 7) fNil)) (fCallD F_round_in (fCons (fVar 0) (fCons (fVar 7) (fCons (fVar 3) fNil))))) (τ := wipeU (fr8p r w h most kvs o5 o6 o7) [7]) bD (fun f => pcOut f (rnd r f most 0)) (srtF (formsOf r w h most)) (fun f hf => ⟨_, rfl, by
    obtain ⟨B, x, ex⟩ := formsOf_is ok hx h2 (mem_srtF.mp hf)
    have er := E_round_in ok (b := f) (most := most) (by omega) fun i hi => B.lim i (by omega)
    obtain ⟨t, m⟩ := x
    rw [ex] at er ⊢
    have er : F_round_in [.im (rD r), .im (bD f), .im (.num (most : Int))] = some (.im (tmD t m)) := er
    show f2 addU (fTup (fCons (fVar 7) fNil)) (fCallD F_round_in (fCons (fVar 0) (fCons (fVar 7) (fCons (fVar 3) fNil)))) [some (.im (rD r)), some (.im (.num (w : Int))), some (.im (.num (h : Int))), some (.im (.num (most : Int))), some (.dc kvs), o5, o6, some (.im (bD f))] = _
    simp only [fRet, fU, fAnd, fOr, fB, f1, f2, f3, fSeq, fNext, fIfS, fIf, fC, fSet, fDrop, fItems, itemsU_b, itemsU_ls, itemsU_tup, fTup, fLst, fCons, fConsF, fNil, fCall, fCallD, fNot, fChain, fUnp, fPar, setAllU, fVar_0, fVar_s, Option.bind_some, Option.bind_none, Option.map_some, isB_bl, eqU_im, eqU_ls, eqU_bb, neU_im, neU_ls, neU_bl, ltU_num, gtU_num, leU_num, geU_num, addU_num, subU_num, negU_num, isN_tup, isN_none, notN_tup, notN_none, ims_nil, ims_im, okAl_im, okAl_bl, okAl_nil, okRt_im, okRt_bl, okRt_nil, mut_im, mut_bl, mut_ls, mut_dc, lenU_tup, lenU_ls, tupU_tup, listU_tup, listU_ls, intU_num, ixU_tup, ixU_ls, ixU_dc, cutU_c, ixc0, ixc1, ixc2, ixp0, ixp1, mkTup_2, mkTup_3, mkTup_nil, mkLst_nil, okArgs_im, okArgs_nil, atI_0, atI_1, atI_2, isi_num_int, isi_num_bool, isi_tup_tuple, isi_num_tuple, wipeU, List.set_cons_zero, List.set_cons_succ, List.length_cons, List.length_nil, List.map_cons, List.map_nil, if_true, if_false, if_pos, Bool.false_eq_true, Bool.not_true, Bool.not_false, Bool.true_or, Bool.false_or, List.isEmpty_nil, List.isEmpty_cons, Option.map_none, mkTup_b, er]
    rfl⟩)
  have s5 : fRet [4] [] (fCall tupU (fCons (fLc (fItems (fSK (fVar 4))) (bName 7) fYes (f2 addU (fTup (fCons (fVar 7) fNil)) (fCallD F_round_in (fCons (fVar 0) (fCons (fVar 7) (fCons (fVar 3) fNil))))) [7]) fNil)) (fr8p r w h most kvs o5 o6 o7) = some (.rt (.im (piecesD r w h most))) := by
    have el : fLc (fItems (fSK (fVar 4))) (bName 7) fYes (f2 addU (fTup (fCons (fVar 7) fNil)) (fCallD F_round_in (fCons (fVar 0) (fCons (fVar 7) (fCons (fVar 3) fNil))))) [7] (fr8p r w h most kvs o5 o6 o7) = some (.ls ((srtF (formsOf r w h most)).map fun f => pcOut f (rnd r f most 0))) := by
      unfold fLc
      rw [show fItems (fSK (fVar 4)) (fr8p r w h most kvs o5 o6 o7) = some ((srtF (formsOf r w h most)).map bD) from by unfold fItems; rw [sk]; rfl, Option.bind_some, if_pos (lt_size (by rw [List.length_map, srtF_len]; omega)), e5]
      rfl
    simp only [fRet, fU, fAnd, fOr, fB, f1, f2, f3, fSeq, fNext, fIfS, fIf, fC, fSet, fDrop, fItems, itemsU_b, itemsU_ls, itemsU_tup, fTup, fLst, fCons, fConsF, fNil, fCall, fCallD, fNot, fChain, fUnp, fPar, setAllU, fVar_0, fVar_s, Option.bind_some, Option.bind_none, Option.map_some, isB_bl, eqU_im, eqU_ls, eqU_bb, neU_im, neU_ls, neU_bl, ltU_num, gtU_num, leU_num, geU_num, addU_num, subU_num, negU_num, isN_tup, isN_none, notN_tup, notN_none, ims_nil, ims_im, okAl_im, okAl_bl, okAl_nil, okRt_im, okRt_bl, okRt_nil, mut_im, mut_bl, mut_ls, mut_dc, lenU_tup, lenU_ls, tupU_tup, listU_tup, listU_ls, intU_num, ixU_tup, ixU_ls, ixU_dc, cutU_c, ixc0, ixc1, ixc2, ixp0, ixp1, mkTup_2, mkTup_3, mkTup_nil, mkLst_nil, okArgs_im, okArgs_nil, atI_0, atI_1, atI_2, isi_num_int, isi_num_bool, isi_tup_tuple, isi_num_tuple, wipeU, List.set_cons_zero, List.set_cons_succ, List.length_cons, List.length_nil, List.map_cons, List.map_nil, if_true, if_false, if_pos, Bool.false_eq_true, Bool.not_true, Bool.not_false, Bool.true_or, Bool.false_or, List.isEmpty_nil, List.isEmpty_cons, Option.map_none, el]
    rw [tupU_ok fun d hd => by
      obtain ⟨f, _, rfl⟩ := List.mem_map.mp hd
      have := depth_pc f (rnd r f most 0)
      omega]
    simp only [fRet, fU, fAnd, fOr, fB, f1, f2, f3, fSeq, fNext, fIfS, fIf, fC, fSet, fDrop, fItems, itemsU_b, itemsU_ls, itemsU_tup, fTup, fLst, fCons, fConsF, fNil, fCall, fCallD, fNot, fChain, fUnp, fPar, setAllU, fVar_0, fVar_s, Option.bind_some, Option.bind_none, Option.map_some, isB_bl, eqU_im, eqU_ls, eqU_bb, neU_im, neU_ls, neU_bl, ltU_num, gtU_num, leU_num, geU_num, addU_num, subU_num, negU_num, isN_tup, isN_none, notN_tup, notN_none, ims_nil, ims_im, okAl_im, okAl_bl, okAl_nil, okRt_im, okRt_bl, okRt_nil, mut_im, mut_bl, mut_ls, mut_dc, lenU_tup, lenU_ls, tupU_tup, listU_tup, listU_ls, intU_num, ixU_tup, ixU_ls, ixU_dc, cutU_c, ixc0, ixc1, ixc2, ixp0, ixp1, mkTup_2, mkTup_3, mkTup_nil, mkLst_nil, okArgs_im, okArgs_nil, atI_0, atI_1, atI_2, isi_num_int, isi_num_bool, isi_tup_tuple, isi_num_tuple, wipeU, List.set_cons_zero, List.set_cons_succ, List.length_cons, List.length_nil, List.map_cons, List.map_nil, if_true, if_false, if_pos, Bool.false_eq_true, Bool.not_true, Bool.not_false, Bool.true_or, Bool.false_or, List.isEmpty_nil, List.isEmpty_cons, Option.map_none]
    rfl
  rw [e0]
  unfold fSeq
  rw [s1, Option.bind_some]
  dsimp only
  rw [s2, Option.bind_some]
  dsimp only
  rw [show fSet 4 [] (fC (.dc [])) [some (.im (rD r)), some (.im (.num (w : Int))), some (.im (.num (h : Int))), some (.im (.num (most : Int))), none, none, none, none] = some (.nx (fr8p r w h most [] none none none)) from rfl, Option.bind_some]
  dsimp only
  rw [s4, Option.bind_some]
  dsimp only
  rw [s5]
  rfl
/-! stills -/
def stillB (r : Rule) (b : List Cell) : Bool := decide (rnd r b 1 0 = some (1, (0, 0)))
def stillsD (r : Rule) (w h : Nat) : D := .tup ((srtF ((boxB w h).filter (stillB r))).map bD)
theorem Sa {r : Rule} (ok : r.Ok) {w h : Nat} (hx : (w, h) ∈ boxes) {b : List Cell} (hb : b ∈ boxB w h) : F_round_in [.im (rD r), .im (bD b), .im (.num 1)] = some (.im (roundD (rnd r b 1 0))) := by
  have er := E_round_in ok (b := b) (most := 1) (by omega) fun i hi => (boxB_is hx hb).lim ok (Nat.le_trans hi (by decide))
  exact er
theorem Sb {w h : Nat} (hx : (w, h) ∈ boxes) : F_need_box [.im (.num (w : Int)), .im (.num (h : Int)), .im (.num 1)] = some (.im .none) := E_box_ok (most := 1) hx (by omega) (by omega)
theorem Sc {r : Rule} (ok : r.Ok) {w h : Nat} (hx : (w, h) ∈ boxes) : lcGo (bName 3) (fB (f2 eqU (fCallD F_round_in (fCons (fVar 0) (fCons (fVar 3) (fCons (fC (.im (.num 1))) fNil)))) (fTup (fCons (fC (.im (.num 1))) (fCons (fTup (fCons (fC (.im (.num 0))) (fCons (fC (.im (.num 0))) fNil))) fNil))))) (fVar 3) [some (.im (rD r)), some (.im (.num (w : Int))), some (.im (.num (h : Int))), none] ((boxB w h).map bD) = some (((boxB w h).filter (stillB r)).map bD) := lcGo_map bD (stillB r) bD (boxB w h) (fun b hb => ⟨_, rfl, by
    have er := Sa ok hx hb
    show fB (f2 eqU (fCallD F_round_in (fCons (fVar 0) (fCons (fVar 3) (fCons (fC (.im (.num 1))) fNil)))) (fTup (fCons (fC (.im (.num 1))) (fCons (fTup (fCons (fC (.im (.num 0))) (fCons (fC (.im (.num 0))) fNil))) fNil)))) [some (.im (rD r)), some (.im (.num (w : Int))), some (.im (.num (h : Int))), some (.im (bD b))] = _
    simp only [fRet, fU, fAnd, fOr, fB, f1, f2, f3, fSeq, fNext, fIfS, fIf, fC, fSet, fDrop, fItems, itemsU_b, itemsU_ls, itemsU_tup, fTup, fLst, fCons, fConsF, fNil, fCall, fCallD, fNot, fChain, fUnp, fPar, setAllU, fVar_0, fVar_s, Option.bind_some, Option.bind_none, Option.map_some, isB_bl, eqU_im, eqU_ls, eqU_bb, neU_im, neU_ls, neU_bl, ltU_num, gtU_num, leU_num, geU_num, addU_num, subU_num, negU_num, isN_tup, isN_none, notN_tup, notN_none, ims_nil, ims_im, okAl_im, okAl_bl, okAl_nil, okRt_im, okRt_bl, okRt_nil, mut_im, mut_bl, mut_ls, mut_dc, lenU_tup, lenU_ls, tupU_tup, listU_tup, listU_ls, intU_num, ixU_tup, ixU_ls, ixU_dc, cutU_c, ixc0, ixc1, ixc2, ixp0, ixp1, mkTup_2, mkTup_3, mkTup_nil, mkLst_nil, okArgs_im, okArgs_nil, atI_0, atI_1, atI_2, isi_num_int, isi_num_bool, isi_tup_tuple, isi_num_tuple, wipeU, List.set_cons_zero, List.set_cons_succ, List.length_cons, List.length_nil, List.map_cons, List.map_nil, if_true, if_false, if_pos, Bool.false_eq_true, Bool.not_true, Bool.not_false, Bool.true_or, Bool.false_or, List.isEmpty_nil, List.isEmpty_cons, Option.map_none, er]
    rw [show mkTup [.num 1, pD (0, 0)] = some (.im (tmD 1 (0, 0))) from mkTup_tm 1 (0, 0)]
    simp only [fRet, fU, fAnd, fOr, fB, f1, f2, f3, fSeq, fNext, fIfS, fIf, fC, fSet, fDrop, fItems, itemsU_b, itemsU_ls, itemsU_tup, fTup, fLst, fCons, fConsF, fNil, fCall, fCallD, fNot, fChain, fUnp, fPar, setAllU, fVar_0, fVar_s, Option.bind_some, Option.bind_none, Option.map_some, isB_bl, eqU_im, eqU_ls, eqU_bb, neU_im, neU_ls, neU_bl, ltU_num, gtU_num, leU_num, geU_num, addU_num, subU_num, negU_num, isN_tup, isN_none, notN_tup, notN_none, ims_nil, ims_im, okAl_im, okAl_bl, okAl_nil, okRt_im, okRt_bl, okRt_nil, mut_im, mut_bl, mut_ls, mut_dc, lenU_tup, lenU_ls, tupU_tup, listU_tup, listU_ls, intU_num, ixU_tup, ixU_ls, ixU_dc, cutU_c, ixc0, ixc1, ixc2, ixp0, ixp1, mkTup_2, mkTup_3, mkTup_nil, mkLst_nil, okArgs_im, okArgs_nil, atI_0, atI_1, atI_2, isi_num_int, isi_num_bool, isi_tup_tuple, isi_num_tuple, wipeU, List.set_cons_zero, List.set_cons_succ, List.length_cons, List.length_nil, List.map_cons, List.map_nil, if_true, if_false, if_pos, Bool.false_eq_true, Bool.not_true, Bool.not_false, Bool.true_or, Bool.false_or, List.isEmpty_nil, List.isEmpty_cons, Option.map_none, dec_round]
    rfl, fun _ => rfl⟩)
theorem depth_bs (l : List (List Cell)) : ∀ d ∈ l.map bD, d.depth ≤ 7 := fun d hd => by
  obtain ⟨f, _, rfl⟩ := List.mem_map.mp hd
  have := depth_bD f
  omega
theorem Sd {r : Rule} {w h : Nat} (hx : (w, h) ∈ boxes) : ((srtU [.ls (((boxB w h).filter (stillB r)).map bD)]).bind fun u => some [u]).bind tupU = some (.im (stillsD r w h)) := by
  have hn : ∀ f ∈ (boxB w h).filter (stillB r), f ≠ [] := fun f hf => (boxB_is hx (List.mem_filter.mp hf).1).ne
  rw [srtU_b hn, Option.bind_some, Option.bind_some, tupU_ok (depth_bs _)]
  rfl
theorem Se {r : Rule} (ok : r.Ok) {w h : Nat} (hx : (w, h) ∈ boxes) : fLc (fItems (fCallD F_boards_in (fCons (fVar 1) (fCons (fVar 2) fNil)))) (bName 3) (fB (f2 eqU (fCallD F_round_in (fCons (fVar 0) (fCons (fVar 3) (fCons (fC (.im (.num 1))) fNil)))) (fTup (fCons (fC (.im (.num 1))) (fCons (fTup (fCons (fC (.im (.num 0))) (fCons (fC (.im (.num 0))) fNil))) fNil))))) (fVar 3) [3] [some (.im (rD r)), some (.im (.num (w : Int))), some (.im (.num (h : Int))), none] = some (.ls (((boxB w h).filter (stillB r)).map bD)) := by
  obtain ⟨b1, b2, b3, b4, b5⟩ := box_small hx
  obtain ⟨eb, lb⟩ := E_boards_in (w := w) (h := h) b5 (by omega) (by omega)
  have e1 : fItems (fCallD F_boards_in (fCons (fVar 1) (fCons (fVar 2) fNil))) [some (.im (rD r)), some (.im (.num (w : Int))), some (.im (.num (h : Int))), none] = some ((boxB w h).map bD) := items_call2 rfl rfl eb
  have hs : ((boxB w h).map bD).length < sizeLine := lt_size (by rw [List.length_map]; omega)
  have hc := Sc ok hx
  generalize F_boards_in = Fa at *
  generalize F_round_in = Fb at *
  unfold fLc
  rw [e1, Option.bind_some, if_pos hs]
  exact congrArg (Option.map U.ls) hc
theorem stills_gen {Fc Fd : List U → Option U} {lcf : Sh → Option U} {a b c R : D} {L : List D} (e4 : Fc [.im a] = some (.im .none)) (e3 : Fd [.im b, .im c, .im (.num 1)] = some (.im .none)) (e1 : lcf [some (.im a), some (.im b), some (.im c), none] = some (.ls L))
    (e2 : ((srtU [.ls L]).bind fun u => some [u]).bind tupU = some (.im R)) : (fSeq (fDrop (fCallD Fc (fCons (fVar 0) fNil))) (fSeq (fDrop (fCallD Fd (fCons (fVar 1) (fCons (fVar 2) (fCons (fC (.im (.num 1))) fNil))))) (fRet [] [] (fCall tupU (fCons (fCall srtU (fCons lcf fNil)) fNil))))) [some (.im a), some (.im b), some (.im c), none] = some (.rt (.im R)) := by
  simp only [fRet, fU, fAnd, fOr, fB, f1, f2, f3, fSeq, fNext, fIfS, fIf, fC, fSet, fDrop, fItems, itemsU_b, itemsU_ls, itemsU_tup, fTup, fLst, fCons, fConsF, fNil, fCall, fCallD, fNot, fChain, fUnp, fPar, setAllU, fVar_0, fVar_s, Option.bind_some, Option.bind_none, Option.map_some, isB_bl, eqU_im, eqU_ls, eqU_bb, neU_im, neU_ls, neU_bl, ltU_num, gtU_num, leU_num, geU_num, addU_num, subU_num, negU_num, isN_tup, isN_none, notN_tup, notN_none, ims_nil, ims_im, okAl_im, okAl_bl, okAl_nil, okRt_im, okRt_bl, okRt_nil, mut_im, mut_bl, mut_ls, mut_dc, lenU_tup, lenU_ls, tupU_tup, listU_tup, listU_ls, intU_num, ixU_tup, ixU_ls, ixU_dc, cutU_c, ixc0, ixc1, ixc2, ixp0, ixp1, mkTup_2, mkTup_3, mkTup_nil, mkLst_nil, okArgs_im, okArgs_nil, atI_0, atI_1, atI_2, isi_num_int, isi_num_bool, isi_tup_tuple, isi_num_tuple, wipeU, List.set_cons_zero, List.set_cons_succ, List.length_cons, List.length_nil, List.map_cons, List.map_nil, if_true, if_false, if_pos, Bool.false_eq_true, Bool.not_true, Bool.not_false, Bool.true_or, Bool.false_or, List.isEmpty_nil, List.isEmpty_cons, Option.map_none, e4, e3, e1, e2]
theorem E_stills_in_box {r : Rule} (ok : r.Ok) {w h : Nat} (hx : (w, h) ∈ boxes) : F_stills_in_box [.im (rD r), .im (.num (w : Int)), .im (.num (h : Int))] = some (.im (stillsD r w h)) := by
  have q : g_stills_in_box [some (.im (rD r)), some (.im (.num (w : Int))), some (.im (.num (h : Int))), none] = some (.rt (.im (stillsD r w h))) := stills_gen (E_need_rule ok) (Sb hx) (Se ok hx) (Sd (r := r) hx)
  unfold F_stills_in_box runG
  show (g_stills_in_box [some (.im (rD r)), some (.im (.num (w : Int))), some (.im (.num (h : Int))), none]).bind _ = _
  rw [q]
  rfl
end VL

set_option Elab.async false
set_option linter.all false
set_option maxRecDepth 100000
set_option maxHeartbeats 400000
/-! VMq: the census. -/
namespace VL
open PySem L2 PyProof.Rows

abbrev Pc := List Cell × Nat × Pl
def pcD (p : Pc) : D := piD p.1 (p.2.1 : Int) p.2.2
def fm (r : Rule) (p : Pc) : List Cell := minF (formsL (phases r p.1 p.2.1))
structure PcOk (r : Rule) (p : Pc) : Prop where
  n1 : 1 ≤ p.2.1
  n2 : p.2.1 ≤ 1000
  ne : ∀ i, i < p.2.1 → stN r i p.1 ≠ []
  lim : ∀ i, i < p.2.1 → Lim (stN r i p.1)
theorem fm_ev {r : Rule} (ok : r.Ok) {p : Pc} (h : PcOk r p) : F_form_in [.im (rD r), .im (pcD p)] = some (.im (bD (fm r p))) := by
  have hne : phases r p.1 p.2.1 ≠ [] := by
    intro z
    have e : (phases r p.1 p.2.1).length = p.2.1 := by unfold phases; simp
    rw [z, List.length_nil] at e
    have := h.n1
    omega
  have e := E_form_in ok p.2.2 h.n1 h.n2 h.lim
  rw [(minF_is (formsL_ne hne)).1] at e
  exact e
theorem fm_ne {r : Rule} {p : Pc} (h : PcOk r p) : fm r p ≠ [] := by
  have hne : phases r p.1 p.2.1 ≠ [] := by
    intro z
    have e : (phases r p.1 p.2.1).length = p.2.1 := by unfold phases; simp
    rw [z, List.length_nil] at e
    have := h.n1
    omega
  have hm := (minF_is (formsL_ne hne)).2
  obtain ⟨c, hc, u, hu, e⟩ := formsL_mem.mp hm
  obtain ⟨j, hj, rfl⟩ := List.mem_map.mp hc
  have hj := List.mem_range.mp hj
  show minF (formsL (phases r p.1 p.2.1)) ≠ []
  rw [e]
  refine norm_ne fun z => ?_
  have := turn_len u (stN r j p.1)
  rw [z] at this
  exact h.ne j hj (List.length_eq_zero_iff.mp this.symm)
def cnt (kvs : List (D × W)) (f : List Cell) : Int := match lookD kvs (bD f) with
  | some (.k (.num n)) => n
  | _ => 0
def isCt (w : W) : Prop := ∃ n : Int, w = .k (.num n)
def cen (kvs : List (D × W)) (f : List Cell) : List (D × W) := stoD kvs (bD f) (.k (.num (cnt kvs f + 1)))
theorem get_ct {kvs : List (D × W)} {fs : List (List Cell)} (h : DF isCt kvs fs) (f : List Cell) : getU (.dc kvs) (.im (bD f)) (.im (.num 0)) = some (.im (.num (cnt kvs f))) := by
  show some (((lookD kvs (bD f)).map wU).getD (.im (.num 0))) = _
  unfold cnt
  by_cases hf : f ∈ fs
  · obtain ⟨w, e, n, rfl⟩ := h.look hf
    rw [e]
    rfl
  · rw [h.miss hf]
    rfl
theorem ix_ct {kvs : List (D × W)} {fs : List (List Cell)} (h : DF isCt kvs fs) {f : List Cell} (hf : f ∈ fs) : ixU (.dc kvs) (.im (bD f)) = some (.im (.num (cnt kvs f))) := by
  rw [ixU_b]
  unfold cnt
  obtain ⟨w, e, n, rfl⟩ := h.look hf
  rw [e]
  rfl
/-- found[form] = found.get(form, 0) + 1, wherever it stands -/
theorem cen_ev {i j : Nat} {τ : Sh} {kvs : List (D × W)} {fs : List (List Cell)} (h : DF isCt kvs fs) (hl : fs.length ≤ 100000) {f : List Cell} (h1 : fVar i τ = some (.dc kvs)) (h2 : fVar j τ = some (.im (bD f))) : fSto i (f2 addU (f3 getU (fVar i) (fVar j) (fC (.im (.num 0)))) (fC (.im (.num 1)))) (fVar j) τ = some (.nx (τ.set i (some (.dc (cen kvs f))))) := by
  have hk := h.len
  exact stoF_ev (d := .num (cnt kvs f + 1)) (by simp only [f2, f3, fC, h1, h2, Option.bind_some, get_ct h, addU_num]) h1 h2 (by omega)
theorem DF.cen {kvs : List (D × W)} {fs : List (List Cell)} (h : DF isCt kvs fs) (f : List Cell) : DF isCt (cen kvs f) (insF fs f) := h.sto f ⟨_, rfl⟩
def cenD (kvs : List (D × W)) (fs : List (List Cell)) : D := .tup ((srtF fs).map fun f => .tup [bD f, .num (cnt kvs f)])
theorem mkTup_bn (f : List Cell) (n : Int) : mkTup [bD f, .num n] = some (.im (.tup [bD f, .num n])) := mkTup_ok (fun x hd => by
  simp only [List.mem_cons, List.not_mem_nil, or_false] at hd
  have := depth_bD f
  rcases hd with rfl | rfl
  · omega
  · simp [NestedKey.depth]) (by simp)
/-- tuple([(form, found[form]) for form in sorted(found.keys())]), wherever it stands -/
theorem cenD_ev {i j : Nat} {τ : Sh} {kvs : List (D × W)} {fs : List (List Cell)} (h : DF isCt kvs fs) (hn : ∀ f ∈ fs, f ≠ []) (hl : fs.length ≤ 100000) (h1 : fVar i τ = some (.dc kvs)) (h2 : ∀ d, fVar i ((wipeU τ [j]).set j (some (.im d))) = some (.dc kvs)) (h3 : ∀ d, fVar j ((wipeU τ [j]).set j (some (.im d))) = some (.im d)) :
    fCall tupU (fCons (fLc (fItems (fSK (fVar i))) (bName j) fYes (fTup (fCons (fVar j) (fCons (f2 ixU (fVar i) (fVar j)) fNil))) [j]) fNil) τ = some (.im (cenD kvs fs)) := by
  have e := lcGo_all (b := bName j) (fe := fTup (fCons (fVar j) (fCons (f2 ixU (fVar i) (fVar j)) fNil))) (τ := wipeU τ [j]) bD (fun f => .tup [bD f, .num (cnt kvs f)]) (srtF fs) (fun f hf => ⟨_, bName_e j _ _, by
    simp only [fTup, fCons, f2, fNil, h2, h3, Option.bind_some, ix_ct h (mem_srtF.mp hf), ims_im, ims_nil, Option.map_some, mkTup_bn]⟩)
  have el : fLc (fItems (fSK (fVar i))) (bName j) fYes (fTup (fCons (fVar j) (fCons (f2 ixU (fVar i) (fVar j)) fNil))) [j] τ = some (.ls ((srtF fs).map fun f => NestedKey.tup [bD f, .num (cnt kvs f)])) := by
    unfold fLc
    rw [show fItems (fSK (fVar i)) τ = some ((srtF fs).map bD) from by unfold fItems; rw [sk_ev h hn h1]; rfl, Option.bind_some, if_pos (lt_size (by rw [List.length_map, srtF_len]; omega)), e]
    rfl
  have et : tupU [.ls ((srtF fs).map fun f => NestedKey.tup [bD f, .num (cnt kvs f)])] = some (.im (cenD kvs fs)) := tupU_ok fun d hd => by
    obtain ⟨f, _, rfl⟩ := List.mem_map.mp hd
    have := depth_bD f
    have h5 : NestedKey.depthAll [bD f, .num (cnt kvs f)] ≤ 3 := depthAll_le fun x hx => by
      simp only [List.mem_cons, List.not_mem_nil, or_false] at hx
      rcases hx with rfl | rfl
      · omega
      · simp [NestedKey.depth]
    have := depth_tup h5
    omega
  simp only [fCall, fCons, fNil, el, Option.bind_some, et]
def cenK (r : Rule) (ps : List Pc) : List (D × W) := ps.foldl (fun kvs p => cen kvs (fm r p)) []
def cenF (r : Rule) (ps : List Pc) : List (List Cell) := ps.foldl (fun fs p => insF fs (fm r p)) []
theorem cen_all (r : Rule) : ∀ (ps : List Pc) (kvs : List (D × W)) (fs : List (List Cell)), DF isCt kvs fs → DF isCt (ps.foldl (fun kvs p => cen kvs (fm r p)) kvs) (ps.foldl (fun fs p => insF fs (fm r p)) fs)
  | [], _, _, h => h
  | p :: ps, kvs, fs, h => cen_all r ps _ _ (h.cen (fm r p))
theorem cenF_mem (r : Rule) : ∀ (ps : List Pc) (fs : List (List Cell)) (f : List Cell), f ∈ ps.foldl (fun fs p => insF fs (fm r p)) fs → f ∈ fs ∨ ∃ p ∈ ps, f = fm r p
  | [], _, _, h => .inl h
  | p :: ps, fs, f, h => by
    rcases cenF_mem r ps _ f h with q | ⟨x, hx, q⟩
    · rcases mem_insF.mp q with q | q
      · exact .inr ⟨p, List.mem_cons_self, q⟩
      · exact .inl q
    · exact .inr ⟨x, List.mem_cons_of_mem _ hx, q⟩
def gCe (F : List U → Option U) : Sh → Option Res := (fSeq (fSet 4 [] (fCallD F (fCons (fVar 0) (fCons (fVar 3) fNil))))
    (fSto 2 (f2 addU (f3 getU (fVar 2) (fVar 4) (fC (.im (.num 0)))) (fC (.im (.num 1)))) (fVar 4)))
theorem gCe_ev {F : List U → Option U} {r pz p : D} {f : List Cell} {kvs : List (D × W)} {fs : List (List Cell)} (h : DF isCt kvs fs) (hl : fs.length ≤ 100000) (e : F [.im r, .im p] = some (.im (bD f))) (o4 : Option U) : gCe F [some (.im r), some (.im pz), some (.dc kvs), some (.im p), o4] = some (.nx [some (.im r), some (.im pz), some (.dc (cen kvs f)), some (.im p), some (.im (bD f))]) := by
  have s1 : fSet 4 [] (fCallD F (fCons (fVar 0) (fCons (fVar 3) fNil))) [some (.im r), some (.im pz), some (.dc kvs), some (.im p), o4] = some (.nx [some (.im r), some (.im pz), some (.dc kvs), some (.im p), some (.im (bD f))]) := by
    simp only [fRet, fU, fAnd, fOr, fB, f1, f2, f3, fSeq, fNext, fIfS, fIf, fC, fSet, fDrop, fItems, itemsU_b, itemsU_ls, itemsU_tup, fTup, fLst, fCons, fConsF, fNil, fCall, fCallD, fNot, fChain, fUnp, fPar, setAllU, fVar_0, fVar_s, Option.bind_some, Option.bind_none, Option.map_some, isB_bl, eqU_im, eqU_ls, eqU_bb, neU_im, neU_ls, neU_bl, ltU_num, gtU_num, leU_num, geU_num, addU_num, subU_num, negU_num, isN_tup, isN_none, notN_tup, notN_none, ims_nil, ims_im, okAl_im, okAl_bl, okAl_nil, okRt_im, okRt_bl, okRt_nil, mut_im, mut_bl, mut_ls, mut_dc, lenU_tup, lenU_ls, tupU_tup, listU_tup, listU_ls, intU_num, ixU_tup, ixU_ls, ixU_dc, cutU_c, ixc0, ixc1, ixc2, ixp0, ixp1, mkTup_2, mkTup_3, mkTup_nil, mkLst_nil, okArgs_im, okArgs_nil, atI_0, atI_1, atI_2, isi_num_int, isi_num_bool, isi_tup_tuple, isi_num_tuple, wipeU, List.set_cons_zero, List.set_cons_succ, List.length_cons, List.length_nil, List.map_cons, List.map_nil, if_true, if_false, if_pos, Bool.false_eq_true, Bool.not_true, Bool.not_false, Bool.true_or, Bool.false_or, List.isEmpty_nil, List.isEmpty_cons, Option.map_none, e]
  unfold gCe fSeq
  rw [s1, Option.bind_some]
  dsimp only
  rw [cen_ev h hl (f := f) rfl rfl]
  rfl
def psD (ps : List Pc) : D := .tup (ps.map pcD)
theorem E_census_in {r : Rule} (ok : r.Ok) {ps : List Pc} (hp : ∀ p ∈ ps, PcOk r p) (hl : ps.length ≤ 1000) : F_census_in [.im (rD r), .im (psD ps)] = some (.im (cenD (cenK r ps) (cenF r ps))) := by
  obtain ⟨τ', l1, o3, o4, rfl, _, l2⟩ := loopV_ix (S := List (D × W) × List (List Cell)) (b := bName 3) (g := gCe F_form_in) pcD (fun n x τ => ∃ o3 o4, τ = [some (.im (rD r)), some (.im (psD ps)), some (.dc x.1), o3, o4] ∧ DF isCt x.1 x.2 ∧ x.2.length + n ≤ 1000) (fun x p => (cen x.1 (fm r p), insF x.2 (fm r p))) ps (fun p hpp n x τ ⟨o3, o4, e, F, h⟩ => by
    subst e
    refine ⟨_, _, rfl, gCe_ev F (by omega) (fm_ev ok (hp p hpp)) o4, some (.im (pcD p)), some (.im (bD (fm r p))), rfl, F.cen _, ?_⟩
    have := insF_len x.2 (fm r p)
    show (insF x.2 (fm r p)).length + n ≤ 1000
    omega) 0 ([], []) [some (.im (rD r)), some (.im (psD ps)), some (.dc []), none, none] ⟨none, none, rfl, DF.nil, by show 0 + (ps.length + 0) ≤ 1000; omega⟩
  have split : ∀ (ps : List Pc) (a : List (D × W)) (b : List (List Cell)), ps.foldl (fun x p => (cen x.1 (fm r p), insF x.2 (fm r p))) (a, b) = (ps.foldl (fun kvs p => cen kvs (fm r p)) a, ps.foldl (fun fs p => insF fs (fm r p)) b) := by
    intro ps
    induction ps with
    | nil => intro a b; rfl
    | cons p ps ih => intro a b; rw [List.foldl_cons, ih]; rfl
  rw [split] at l1 l2
  have D0 : DF isCt (cenK r ps) (cenF r ps) := cen_all r ps [] [] DF.nil
  have hn : ∀ f ∈ cenF r ps, f ≠ [] := fun f hf => by
    rcases cenF_mem r ps [] f hf with q | ⟨p, hpp, rfl⟩
    · simp at q
    · exact fm_ne (hp p hpp)
  have l2 : (cenF r ps).length + 0 ≤ 1000 := l2
  have l1 : loopV (bName 3) (gCe F_form_in) (ps.map pcD) [some (.im (rD r)), some (.im (psD ps)), some (.dc []), none, none] = some (.nx [some (.im (rD r)), some (.im (psD ps)), some (.dc (cenK r ps)), o3, o4]) := l1
  have e5 := cenD_ev (i := 2) (j := 4) (τ := [some (.im (rD r)), some (.im (psD ps)), some (.dc (cenK r ps)), o3, o4]) D0 hn (by omega) rfl (fun _ => rfl) (fun _ => rfl)
  have e0 : g_census_in = fSeq (fSet 2 [] (fC (.dc []))) (fSeq (fFor (fItems (fVar 1)) (bName 3) (gCe F_form_in)) (fRet [2] [] (fCall tupU (fCons (fLc (fItems (fSK (fVar 2))) (bName 4) fYes (fTup (fCons (fVar 4) (fCons (f2 ixU (fVar 2) (fVar 4)) fNil))) [4]) fNil)))) := rfl
  unfold F_census_in runG
  show (g_census_in [some (.im (rD r)), some (.im (psD ps)), none, none, none]).bind _ = _
  rw [e0]
  generalize F_form_in = Ff at *
  have s2 : fFor (fItems (fVar 1)) (bName 3) (gCe Ff) [some (.im (rD r)), some (.im (psD ps)), some (.dc []), none, none] = some (.nx [some (.im (rD r)), some (.im (psD ps)), some (.dc (cenK r ps)), o3, o4]) := by
    unfold fFor
    rw [show fItems (fVar 1) [some (.im (rD r)), some (.im (psD ps)), some (.dc []), none, none] = some (ps.map pcD) from rfl, Option.bind_some]
    exact l1
  unfold fSeq
  rw [show fSet 2 [] (fC (.dc [])) [some (.im (rD r)), some (.im (psD ps)), none, none, none] = some (.nx [some (.im (rD r)), some (.im (psD ps)), some (.dc []), none, none]) from rfl, Option.bind_some]
  dsimp only
  rw [s2, Option.bind_some]
  dsimp only
  unfold fRet
  rw [e5, Option.bind_some, if_pos (okRt_nil _ _)]
  rfl
end VL

set_option Elab.async false
set_option linter.all false
set_option maxRecDepth 100000
set_option maxHeartbeats 400000
/-! VMr: pieces that pass is_piece. -/
namespace VL
open PySem L2 PyProof.Rows

def r0 : Rule := ⟨[3], [2, 3], 2⟩
theorem r0_ok : r0.Ok := ⟨by decide, by decide, by decide, by decide, by decide, by decide⟩
/-- a piece of Life that is known to come round -/
structure Kp (p : Pc) : Prop where
  good : Good p.1
  ne : p.1 ≠ []
  n1 : 1 ≤ p.2.1
  n8 : p.2.1 ≤ 8
  sm : Sm 200 5 p.1
  one : ∀ c ∈ p.1, c.2.2 = 1
  round : stN r0 p.2.1 p.1 = shift p.2.2 p.1
  far : -1000 ≤ p.2.2.1 ∧ p.2.2.1 ≤ 1000 ∧ -1000 ≤ p.2.2.2 ∧ p.2.2.2 ≤ 1000
theorem Kp.lim {p : Pc} (h : Kp p) {i : Nat} (hi : i ≤ 8) : Lim (stN r0 i p.1) := (h.sm.stN r0_ok h.good i).lim (stN_good h.good i) (by omega) (by omega) (by omega)
theorem Kp.len {p : Pc} (h : Kp p) : p.1.length ≤ 25 := by
  obtain ⟨x0, y0, _, _, _, _, q⟩ := h.sm
  exact inb_len (n := 5) h.good.is q
theorem Kp.ok {p : Pc} (h : Kp p) : PcOk r0 p := by
  refine ⟨h.n1, by have := h.n8; omega, fun i hi => ?_, fun i hi => h.lim (by have := h.n8; omega)⟩
  have e : stN r0 p.2.1 p.1 ≠ [] := by
    rw [h.round]
    intro z
    have q := congrArg List.length z
    unfold shift at q
    rw [List.length_map] at q
    exact h.ne (List.length_eq_zero_iff.mp q)
  exact stN_ne e (by omega)
theorem lenU_p (p : Pl) : lenU [.im (pD p)] = some (.im (.num 2)) := rfl
theorem lenU_c (c : Cell) : lenU [.im (cD c)] = some (.im (.num 3)) := rfl
theorem lenU_pi (b : List Cell) (n : Int) (m : Pl) : lenU [.im (piD b n m)] = some (.im (.num 3)) := rfl
theorem far_in {x : Int} (h : -10000 ≤ x ∧ x ≤ 10000) : decide (-(10 ^ 60) ≤ x ∧ x ≤ 10 ^ 60) = true := by
  have := far60
  exact decide_eq_true ⟨by omega, by omega⟩
theorem E_is_move {p : Pl} (h1 : -10000 ≤ p.1 ∧ p.1 ≤ 10000) (h2 : -10000 ≤ p.2 ∧ p.2 ≤ 10000) : F_is_move [.im (pD p)] = some (.bl true) := by
  have q1 : F_is_in [.im (.num p.1), .im (.num (-(10 ^ 60))), .im (.num (10 ^ 60))] = some (.bl true) := by rw [E_is_in, far_in h1]
  have q2 : F_is_in [.im (.num p.2), .im (.num (-(10 ^ 60))), .im (.num (10 ^ 60))] = some (.bl true) := by rw [E_is_in, far_in h2]
  unfold F_is_move runG
  show (g_is_move [some (.im (pD p))]).bind _ = _
  unfold g_is_move
  generalize F_is_in = F at *
  simp only [fRet, fU, fAnd, fOr, fB, f1, f2, f3, fSeq, fNext, fIfS, fIf, fC, fSet, fDrop, fItems, itemsU_b, itemsU_ls, itemsU_tup, fTup, fLst, fCons, fConsF, fNil, fCall, fCallD, fNot, fChain, fUnp, fPar, setAllU, fVar_0, fVar_s, Option.bind_some, Option.bind_none, Option.map_some, isB_bl, eqU_im, eqU_ls, eqU_bb, neU_im, neU_ls, neU_bl, ltU_num, gtU_num, leU_num, geU_num, addU_num, subU_num, negU_num, isN_tup, isN_none, notN_tup, notN_none, ims_nil, ims_im, okAl_im, okAl_bl, okAl_nil, okRt_im, okRt_bl, okRt_nil, mut_im, mut_bl, mut_ls, mut_dc, lenU_tup, lenU_ls, tupU_tup, listU_tup, listU_ls, intU_num, ixU_tup, ixU_ls, ixU_dc, cutU_c, ixc0, ixc1, ixc2, ixp0, ixp1, mkTup_2, mkTup_3, mkTup_nil, mkLst_nil, okArgs_im, okArgs_nil, atI_0, atI_1, atI_2, isi_num_int, isi_num_bool, isi_tup_tuple, isi_num_tuple, wipeU, List.set_cons_zero, List.set_cons_succ, List.length_cons, List.length_nil, List.map_cons, List.map_nil, if_true, if_false, if_pos, Bool.false_eq_true, Bool.not_true, Bool.not_false, Bool.true_or, Bool.false_or, List.isEmpty_nil, List.isEmpty_cons, Option.map_none, isi_pD, lenU_p, num_dec, decide_true, q1, q2]
theorem E_is_cell {c : Cell} (h1 : -10000 ≤ c.1 ∧ c.1 ≤ 10000) (h2 : -10000 ≤ c.2.1 ∧ c.2.1 ≤ 10000) (h3 : c.2.2 = 1) : F_is_cell [.im (cD c)] = some (.bl true) := by
  have q1 := E_is_move (p := pl c) h1 h2
  have q2 : F_is_in [.im (.num c.2.2), .im (.num 1), .im (.num (6 - 1))] = some (.bl true) := by rw [E_is_in, h3]; rfl
  unfold F_is_cell runG
  show (g_is_cell [some (.im (cD c))]).bind _ = _
  unfold g_is_cell
  generalize F_is_move = F at *
  generalize F_is_in = F' at *
  simp only [fRet, fU, fAnd, fOr, fB, f1, f2, f3, fSeq, fNext, fIfS, fIf, fC, fSet, fDrop, fItems, itemsU_b, itemsU_ls, itemsU_tup, fTup, fLst, fCons, fConsF, fNil, fCall, fCallD, fNot, fChain, fUnp, fPar, setAllU, fVar_0, fVar_s, Option.bind_some, Option.bind_none, Option.map_some, isB_bl, eqU_im, eqU_ls, eqU_bb, neU_im, neU_ls, neU_bl, ltU_num, gtU_num, leU_num, geU_num, addU_num, subU_num, negU_num, isN_tup, isN_none, notN_tup, notN_none, ims_nil, ims_im, okAl_im, okAl_bl, okAl_nil, okRt_im, okRt_bl, okRt_nil, mut_im, mut_bl, mut_ls, mut_dc, lenU_tup, lenU_ls, tupU_tup, listU_tup, listU_ls, intU_num, ixU_tup, ixU_ls, ixU_dc, cutU_c, ixc0, ixc1, ixc2, ixp0, ixp1, mkTup_2, mkTup_3, mkTup_nil, mkLst_nil, okArgs_im, okArgs_nil, atI_0, atI_1, atI_2, isi_num_int, isi_num_bool, isi_tup_tuple, isi_num_tuple, wipeU, List.set_cons_zero, List.set_cons_succ, List.length_cons, List.length_nil, List.map_cons, List.map_nil, if_true, if_false, if_pos, Bool.false_eq_true, Bool.not_true, Bool.not_false, Bool.true_or, Bool.false_or, List.isEmpty_nil, List.isEmpty_cons, Option.map_none, isi_cD, lenU_c, num_dec, decide_true, q1, q2]
def nthC (b : List Cell) (k : Nat) : Cell := b.getD k (0, 0, 0)
theorem range_nthC (b : List Cell) : (List.range b.length).map (nthC b) = b := by
  refine List.ext_getElem? fun i => ?_
  rw [List.getElem?_map]
  by_cases h : i < b.length
  · rw [List.getElem?_range h, List.getElem?_eq_getElem h]
    simp [nthC, List.getD_eq_getElem?_getD, List.getElem?_eq_getElem h]
  · rw [List.getElem?_eq_none (by simpa using h), List.getElem?_eq_none (by simpa using h)]
    rfl
theorem enum_nthC (b : List Cell) : enumD 0 (b.map cD) = (List.range b.length).map fun (k : Nat) => NestedKey.tup [.num (k : Int), cD (nthC b k)] := by
  have e : b.map cD = (List.range' 0 b.length).map fun k => cD (nthC b k) := by
    conv => lhs; rw [← range_nthC b]
    rw [List.map_map, List.range_eq_range']
    rfl
  rw [e, enum_range, ← List.range_eq_range']
theorem nthC_at {b : List Cell} {k : Nat} (h : k < b.length) : b[k]? = some (nthC b k) := by
  rw [List.getElem?_eq_getElem h]
  simp [nthC, List.getD_eq_getElem?_getD, List.getElem?_eq_getElem h]
theorem nthC_mem {b : List Cell} {k : Nat} (h : k < b.length) : nthC b k ∈ b := List.mem_of_getElem? (nthC_at h)
theorem nthC_lt {b : List Cell} (hb : IsB b) {j k : Nat} (hjk : j < k) (hk : k < b.length) : plt (pl (nthC b j)) (pl (nthC b k)) := by
  have h2 : ((List.range b.length).map (nthC b)).Pairwise cLt := by rw [range_nthC]; exact hb
  rw [List.pairwise_map] at h2
  have h3 := List.pairwise_iff_getElem.mp h2 j k (by simp; omega) (by simpa using hk) hjk
  simpa [cLt] using h3
def gNb (F : List U → Option U) : Sh → Option Res := (fIfS (fOr (fNot (fB (fCallD F (fCons (fVar 2) fNil)))) (fAnd (fB (f2 gtU (fVar 1) (fC (.im (.num 0))))) (fB (f2 leU (f2 cutU (fVar 2) (fC (.im (.num 2)))) (f2 cutU (f2 ixU (fVar 0) (f2 subU (fVar 1) (fC (.im (.num 1))))) (fC (.im (.num 2)))))))) (fun _ => none) fNext)
theorem leU_pp {p q : Pl} (h : plt q p) : leU (.im (pD p)) (.im (pD q)) = some (.bl false) := by
  rw [leU_im, if_pos ⟨alD_nums [p.1, p.2] [q.1, q.2], rfl⟩, ltD_pD, decide_eq_true h]
  rfl
theorem gNbd_ev {F : List U → Option U} {b : List Cell} (hb : IsB b) {k : Nat} (hk : k < b.length) (e : F [.im (cD (nthC b k))] = some (.bl true)) : gNb F [some (.im (bD b)), some (.im (.num (k : Int))), some (.im (cD (nthC b k)))] = some (.nx [some (.im (bD b)), some (.im (.num (k : Int))), some (.im (cD (nthC b k)))]) := by
  cases k with
  | zero =>
    have e0 : decide ((0 : Int) < ((0 : Nat) : Int)) = false := by decide
    simp only [gNb, fRet, fU, fAnd, fOr, fB, f1, f2, f3, fSeq, fNext, fIfS, fIf, fC, fSet, fDrop, fItems, itemsU_b, itemsU_ls, itemsU_tup, fTup, fLst, fCons, fConsF, fNil, fCall, fCallD, fNot, fChain, fUnp, fPar, setAllU, fVar_0, fVar_s, Option.bind_some, Option.bind_none, Option.map_some, isB_bl, eqU_im, eqU_ls, eqU_bb, neU_im, neU_ls, neU_bl, ltU_num, gtU_num, leU_num, geU_num, addU_num, subU_num, negU_num, isN_tup, isN_none, notN_tup, notN_none, ims_nil, ims_im, okAl_im, okAl_bl, okAl_nil, okRt_im, okRt_bl, okRt_nil, mut_im, mut_bl, mut_ls, mut_dc, lenU_tup, lenU_ls, tupU_tup, listU_tup, listU_ls, intU_num, ixU_tup, ixU_ls, ixU_dc, cutU_c, ixc0, ixc1, ixc2, ixp0, ixp1, mkTup_2, mkTup_3, mkTup_nil, mkLst_nil, okArgs_im, okArgs_nil, atI_0, atI_1, atI_2, isi_num_int, isi_num_bool, isi_tup_tuple, isi_num_tuple, wipeU, List.set_cons_zero, List.set_cons_succ, List.length_cons, List.length_nil, List.map_cons, List.map_nil, if_true, if_false, if_pos, Bool.false_eq_true, Bool.not_true, Bool.not_false, Bool.true_or, Bool.false_or, List.isEmpty_nil, List.isEmpty_cons, Option.map_none, e, e0]
  | succ k =>
    have e0 : decide ((0 : Int) < ((k + 1 : Nat) : Int)) = true := decide_eq_true (by omega)
    have e1 : ixU (.im (bD b)) (.im (.num (((k + 1 : Nat) : Int) - 1))) = some (.im (cD (nthC b k))) := by
      have e2 : ((k + 1 : Nat) : Int) - 1 = (k : Int) := by omega
      rw [e2]
      refine (ixU_tup _ _).trans ?_
      rw [atI_nat (v := cD (nthC b k)) (by rw [List.getElem?_map, nthC_at (by omega)]; rfl)]
      rfl
    have e3 := leU_pp (nthC_lt hb (Nat.lt_succ_self k) hk)
    simp only [gNb, fRet, fU, fAnd, fOr, fB, f1, f2, f3, fSeq, fNext, fIfS, fIf, fC, fSet, fDrop, fItems, itemsU_b, itemsU_ls, itemsU_tup, fTup, fLst, fCons, fConsF, fNil, fCall, fCallD, fNot, fChain, fUnp, fPar, setAllU, fVar_0, fVar_s, Option.bind_some, Option.bind_none, Option.map_some, isB_bl, eqU_im, eqU_ls, eqU_bb, neU_im, neU_ls, neU_bl, ltU_num, gtU_num, leU_num, geU_num, addU_num, subU_num, negU_num, isN_tup, isN_none, notN_tup, notN_none, ims_nil, ims_im, okAl_im, okAl_bl, okAl_nil, okRt_im, okRt_bl, okRt_nil, mut_im, mut_bl, mut_ls, mut_dc, lenU_tup, lenU_ls, tupU_tup, listU_tup, listU_ls, intU_num, ixU_tup, ixU_ls, ixU_dc, cutU_c, ixc0, ixc1, ixc2, ixp0, ixp1, mkTup_2, mkTup_3, mkTup_nil, mkLst_nil, okArgs_im, okArgs_nil, atI_0, atI_1, atI_2, isi_num_int, isi_num_bool, isi_tup_tuple, isi_num_tuple, wipeU, List.set_cons_zero, List.set_cons_succ, List.length_cons, List.length_nil, List.map_cons, List.map_nil, if_true, if_false, if_pos, Bool.false_eq_true, Bool.not_true, Bool.not_false, Bool.true_or, Bool.false_or, List.isEmpty_nil, List.isEmpty_cons, Option.map_none, e, e0, e1, e3]
theorem depthAll_c (b : List Cell) : NestedKey.depthAll (b.map cD) ≤ 7 := depthAll_le fun d hd => by
  obtain ⟨p, _, rfl⟩ := List.mem_map.mp hd
  have := depth_cD p
  omega
theorem E_need_board {b : List Cell} (hb : IsB b) (hc : ∀ c ∈ b, F_is_cell [.im (cD c)] = some (.bl true)) : F_need_board [.im (bD b)] = some (.im .none) := by
  obtain ⟨τ', h1, o1, o2, rfl⟩ := loopV_rel (S := Unit) (b := bTup [1, 2]) (g := gNb F_is_cell) (fun (k : Nat) => NestedKey.tup [.num (k : Int), cD (nthC b k)]) (fun _ τ => ∃ o1 o2, τ = [some (.im (bD b)), o1, o2]) (fun _ _ => ()) (List.range b.length) (fun k hk _ τ ⟨o1, o2, e⟩ => by
    subst e
    have hk := List.mem_range.mp hk
    exact ⟨_, _, rfl, gNbd_ev hb hk (hc _ (nthC_mem hk)), _, _, rfl⟩) () [some (.im (bD b)), none, none] ⟨none, none, rfl⟩
  unfold F_need_board runG
  show (g_need_board [some (.im (bD b)), none, none]).bind _ = _
  have e0 : g_need_board = fSeq (fIfS (fNot (fB (f1 (isiU "tuple") (fVar 0)))) (fun _ => none) fNext) (fFor (fEnum (fVar 0)) (bTup [1, 2]) (gNb F_is_cell)) := rfl
  rw [e0]
  generalize F_is_cell = F at *
  have s1 : fIfS (fNot (fB (f1 (isiU "tuple") (fVar 0)))) (fun _ => none) fNext [some (.im (bD b)), none, none] = some (.nx [some (.im (bD b)), none, none]) := by
    simp only [fRet, fU, fAnd, fOr, fB, f1, f2, f3, fSeq, fNext, fIfS, fIf, fC, fSet, fDrop, fItems, itemsU_b, itemsU_ls, itemsU_tup, fTup, fLst, fCons, fConsF, fNil, fCall, fCallD, fNot, fChain, fUnp, fPar, setAllU, fVar_0, fVar_s, Option.bind_some, Option.bind_none, Option.map_some, isB_bl, eqU_im, eqU_ls, eqU_bb, neU_im, neU_ls, neU_bl, ltU_num, gtU_num, leU_num, geU_num, addU_num, subU_num, negU_num, isN_tup, isN_none, notN_tup, notN_none, ims_nil, ims_im, okAl_im, okAl_bl, okAl_nil, okRt_im, okRt_bl, okRt_nil, mut_im, mut_bl, mut_ls, mut_dc, lenU_tup, lenU_ls, tupU_tup, listU_tup, listU_ls, intU_num, ixU_tup, ixU_ls, ixU_dc, cutU_c, ixc0, ixc1, ixc2, ixp0, ixp1, mkTup_2, mkTup_3, mkTup_nil, mkLst_nil, okArgs_im, okArgs_nil, atI_0, atI_1, atI_2, isi_num_int, isi_num_bool, isi_tup_tuple, isi_num_tuple, wipeU, List.set_cons_zero, List.set_cons_succ, List.length_cons, List.length_nil, List.map_cons, List.map_nil, if_true, if_false, if_pos, Bool.false_eq_true, Bool.not_true, Bool.not_false, Bool.true_or, Bool.false_or, List.isEmpty_nil, List.isEmpty_cons, Option.map_none, isi_bD]
  unfold fSeq
  rw [s1, Option.bind_some]
  dsimp only
  unfold fFor
  rw [show fEnum (fVar 0) [some (.im (bD b)), none, none] = some ((List.range b.length).map fun (k : Nat) => NestedKey.tup [.num (k : Int), cD (nthC b k)]) from by
    show (if NestedKey.depthAll (b.map cD) ≤ 7 then some (enumD 0 (b.map cD)) else none) = _
    rw [if_pos (depthAll_c b), enum_nthC], Option.bind_some, h1]
  rfl
theorem shape_gen {Fi Fm Fn : List U → Option U} {b : List Cell} {n : Int} {m : Pl} (e1 : Fi [.im (.num n), .im (.num 1), .im (.num 240)] = some (.bl true)) (e2 : Fm [.im (pD m)] = some (.bl true)) (e3 : Fn [.im (bD b)] = some (.im .none)) (h1 : 1 ≤ b.length) (h2 : b.length ≤ 300) :
    (fSeq (fIfS (fOr (fNot (fB (f1 (isiU "tuple") (fVar 0)))) (fOr (fB (f2 neU (fCall lenU (fCons (fVar 0) fNil)) (fC (.im (.num 3))))) (fNot (fB (fCallD Fi (fCons (f2 ixU (fVar 0) (fC (.im (.num 1)))) (fCons (fC (.im (.num 1))) (fCons (fC (.im (.num 240))) fNil)))))))) (fRet [] [] (fC (.bl false))) fNext)
    (fSeq (fIfS (fOr (fNot (fB (fCallD Fm (fCons (f2 ixU (fVar 0) (fC (.im (.num 2)))) fNil)))) (fOr (fNot (fB (f1 (isiU "tuple") (f2 ixU (fVar 0) (fC (.im (.num 0))))))) (fNot (fB (fChain leU leU (fC (.im (.num 1))) (fCall lenU (fCons (f2 ixU (fVar 0) (fC (.im (.num 0)))) fNil)) (fC (.im (.num 300)))))))) (fRet [] [] (fC (.bl false))) fNext)
    (fSeq (fDrop (fCallD Fn (fCons (f2 ixU (fVar 0) (fC (.im (.num 0)))) fNil)))
    (fRet [] [] (fC (.bl true)))))) [some (.im (piD b n m))] = some (.rt (.bl true)) := by
  have q1 : decide ((1 : Int) ≤ (b.length : Int)) = true := decide_eq_true (by omega)
  have q2 : decide ((b.length : Int) ≤ 300) = true := decide_eq_true (by omega)
  simp only [fRet, fU, fAnd, fOr, fB, f1, f2, f3, fSeq, fNext, fIfS, fIf, fC, fSet, fDrop, fItems, itemsU_b, itemsU_ls, itemsU_tup, fTup, fLst, fCons, fConsF, fNil, fCall, fCallD, fNot, fChain, fUnp, fPar, setAllU, fVar_0, fVar_s, Option.bind_some, Option.bind_none, Option.map_some, isB_bl, eqU_im, eqU_ls, eqU_bb, neU_im, neU_ls, neU_bl, ltU_num, gtU_num, leU_num, geU_num, addU_num, subU_num, negU_num, isN_tup, isN_none, notN_tup, notN_none, ims_nil, ims_im, okAl_im, okAl_bl, okAl_nil, okRt_im, okRt_bl, okRt_nil, mut_im, mut_bl, mut_ls, mut_dc, lenU_tup, lenU_ls, tupU_tup, listU_tup, listU_ls, intU_num, ixU_tup, ixU_ls, ixU_dc, cutU_c, ixc0, ixc1, ixc2, ixp0, ixp1, mkTup_2, mkTup_3, mkTup_nil, mkLst_nil, okArgs_im, okArgs_nil, atI_0, atI_1, atI_2, isi_num_int, isi_num_bool, isi_tup_tuple, isi_num_tuple, wipeU, List.set_cons_zero, List.set_cons_succ, List.length_cons, List.length_nil, List.map_cons, List.map_nil, if_true, if_false, if_pos, Bool.false_eq_true, Bool.not_true, Bool.not_false, Bool.true_or, Bool.false_or, List.isEmpty_nil, List.isEmpty_cons, Option.map_none, isi_piD, lenU_pi, num_dec, decide_true, pi0, pi1, pi2, e1, e2, e3, isi_bD, lenU_b, q1, q2]
theorem E_is_piece_shape {p : Pc} (h : Kp p) : F_is_piece_shape [.im (pcD p)] = some (.bl true) := by
  have hl := h.len
  have L := h.lim (i := 0) (by omega)
  have e1 : F_is_in [.im (.num (p.2.1 : Int)), .im (.num 1), .im (.num 240)] = some (.bl true) := by rw [E_is_in, decide_eq_true (by have := h.n1; have := h.n8; omega)]
  have e2 := E_is_move (p := p.2.2) (by have := h.far; omega) (by have := h.far; omega)
  have e3 := E_need_board h.good.is fun c hc => by
    have f := L.far c hc
    exact E_is_cell ⟨f.1, f.2.1⟩ ⟨f.2.2.1, f.2.2.2⟩ (h.one c hc)
  have hp : 1 ≤ p.1.length := List.length_pos_iff.mpr h.ne
  have q : g_is_piece_shape [some (.im (pcD p))] = some (.rt (.bl true)) := shape_gen e1 e2 e3 hp (by omega)
  unfold F_is_piece_shape runG
  show (g_is_piece_shape [some (.im (pcD p))]).bind _ = _
  rw [q]
  rfl
theorem E_need_states {b : List Cell} (h1 : ∀ c ∈ b, c.2.2 = 1) (hl : b.length ≤ 1000) : F_need_states [.im (rD r0), .im (bD b)] = some (.bl true) := by
  have e := lcGo_map (b := bName 2) (ft := fB (f2 geU (f2 ixU (fVar 2) (fC (.im (.num 2)))) (f2 ixU (fVar 0) (fC (.im (.num 2)))))) (fe := fVar 2) (τ := [some (.im (rD r0)), some (.im (bD b)), none]) cD (fun c => decide ((2 : Int) ≤ c.2.2)) cD b (fun c _ => ⟨_, rfl, by
    show fB (f2 geU (f2 ixU (fVar 2) (fC (.im (.num 2)))) (f2 ixU (fVar 0) (fC (.im (.num 2))))) [some (.im (rD r0)), some (.im (bD b)), some (.im (cD c))] = _
    simp only [fRet, fU, fAnd, fOr, fB, f1, f2, f3, fSeq, fNext, fIfS, fIf, fC, fSet, fDrop, fItems, itemsU_b, itemsU_ls, itemsU_tup, fTup, fLst, fCons, fConsF, fNil, fCall, fCallD, fNot, fChain, fUnp, fPar, setAllU, fVar_0, fVar_s, Option.bind_some, Option.bind_none, Option.map_some, isB_bl, eqU_im, eqU_ls, eqU_bb, neU_im, neU_ls, neU_bl, ltU_num, gtU_num, leU_num, geU_num, addU_num, subU_num, negU_num, isN_tup, isN_none, notN_tup, notN_none, ims_nil, ims_im, okAl_im, okAl_bl, okAl_nil, okRt_im, okRt_bl, okRt_nil, mut_im, mut_bl, mut_ls, mut_dc, lenU_tup, lenU_ls, tupU_tup, listU_tup, listU_ls, intU_num, ixU_tup, ixU_ls, ixU_dc, cutU_c, ixc0, ixc1, ixc2, ixp0, ixp1, mkTup_2, mkTup_3, mkTup_nil, mkLst_nil, okArgs_im, okArgs_nil, atI_0, atI_1, atI_2, isi_num_int, isi_num_bool, isi_tup_tuple, isi_num_tuple, wipeU, List.set_cons_zero, List.set_cons_succ, List.length_cons, List.length_nil, List.map_cons, List.map_nil, if_true, if_false, if_pos, Bool.false_eq_true, Bool.not_true, Bool.not_false, Bool.true_or, Bool.false_or, List.isEmpty_nil, List.isEmpty_cons, Option.map_none, ixr2]
    rfl, fun _ => rfl⟩)
  have e2 : b.filter (fun c => decide ((2 : Int) ≤ c.2.2)) = [] := List.filter_eq_nil_iff.mpr fun c hc => by rw [h1 c hc]; decide
  rw [e2] at e
  unfold F_need_states runG
  show (g_need_states [some (.im (rD r0)), some (.im (bD b)), none]).bind _ = _
  have hs : b.length < sizeLine := lt_size (by omega)
  simp only [g_need_states, fRet, fU, fAnd, fOr, fB, f1, f2, f3, fSeq, fNext, fIfS, fIf, fC, fSet, fDrop, fItems, itemsU_b, itemsU_ls, itemsU_tup, fTup, fLst, fCons, fConsF, fNil, fCall, fCallD, fNot, fChain, fUnp, fPar, setAllU, fVar_0, fVar_s, Option.bind_some, Option.bind_none, Option.map_some, isB_bl, eqU_im, eqU_ls, eqU_bb, neU_im, neU_ls, neU_bl, ltU_num, gtU_num, leU_num, geU_num, addU_num, subU_num, negU_num, isN_tup, isN_none, notN_tup, notN_none, ims_nil, ims_im, okAl_im, okAl_bl, okAl_nil, okRt_im, okRt_bl, okRt_nil, mut_im, mut_bl, mut_ls, mut_dc, lenU_tup, lenU_ls, tupU_tup, listU_tup, listU_ls, intU_num, ixU_tup, ixU_ls, ixU_dc, cutU_c, ixc0, ixc1, ixc2, ixp0, ixp1, mkTup_2, mkTup_3, mkTup_nil, mkLst_nil, okArgs_im, okArgs_nil, atI_0, atI_1, atI_2, isi_num_int, isi_num_bool, isi_tup_tuple, isi_num_tuple, wipeU, List.set_cons_zero, List.set_cons_succ, List.length_cons, List.length_nil, List.map_cons, List.map_nil, if_true, if_false, if_pos, Bool.false_eq_true, Bool.not_true, Bool.not_false, Bool.true_or, Bool.false_or, List.isEmpty_nil, List.isEmpty_cons, Option.map_none, fLc, List.length_map, hs]
  rw [e]
  simp only [fRet, fU, fAnd, fOr, fB, f1, f2, f3, fSeq, fNext, fIfS, fIf, fC, fSet, fDrop, fItems, itemsU_b, itemsU_ls, itemsU_tup, fTup, fLst, fCons, fConsF, fNil, fCall, fCallD, fNot, fChain, fUnp, fPar, setAllU, fVar_0, fVar_s, Option.bind_some, Option.bind_none, Option.map_some, isB_bl, eqU_im, eqU_ls, eqU_bb, neU_im, neU_ls, neU_bl, ltU_num, gtU_num, leU_num, geU_num, addU_num, subU_num, negU_num, isN_tup, isN_none, notN_tup, notN_none, ims_nil, ims_im, okAl_im, okAl_bl, okAl_nil, okRt_im, okRt_bl, okRt_nil, mut_im, mut_bl, mut_ls, mut_dc, lenU_tup, lenU_ls, tupU_tup, listU_tup, listU_ls, intU_num, ixU_tup, ixU_ls, ixU_dc, cutU_c, ixc0, ixc1, ixc2, ixp0, ixp1, mkTup_2, mkTup_3, mkTup_nil, mkLst_nil, okArgs_im, okArgs_nil, atI_0, atI_1, atI_2, isi_num_int, isi_num_bool, isi_tup_tuple, isi_num_tuple, wipeU, List.set_cons_zero, List.set_cons_succ, List.length_cons, List.length_nil, List.map_cons, List.map_nil, if_true, if_false, if_pos, Bool.false_eq_true, Bool.not_true, Bool.not_false, Bool.true_or, Bool.false_or, List.isEmpty_nil, List.isEmpty_cons, Option.map_none, decide_true]
theorem piece_gen {Fs Fn Fp Fh : List U → Option U} {r : D} {b : List Cell} {n : Int} {m : Pl} {L : List D} {x : D} (e1 : Fs [.im (piD b n m)] = some (.bl true)) (e2 : Fn [.im r, .im (bD b)] = some (.bl true)) (e3 : Fp [.im r, .im (bD b), .im (.num (n + 1))] = some (.ls (L ++ [x]))) (e4 : Fh [.im (bD b), .im (pD m)] = some (.im x)) :
    (fSeq (fIfS (fOr (fNot (fB (fCallD Fs (fCons (fVar 1) fNil)))) (fNot (fB (fCallD Fn (fCons (fVar 0) (fCons (f2 ixU (fVar 1) (fC (.im (.num 0)))) fNil)))))) (fRet [] [] (fC (.bl false))) fNext)
    (fSeq (fSet 2 [] (f2 ixU (fCallD Fp (fCons (fVar 0) (fCons (f2 ixU (fVar 1) (fC (.im (.num 0)))) (fCons (f2 addU (f2 ixU (fVar 1) (fC (.im (.num 1)))) (fC (.im (.num 1)))) fNil)))) (f1 negU (fC (.im (.num 1))))))
    (fRet [] [] (f2 eqU (fVar 2) (fCallD Fh (fCons (f2 ixU (fVar 1) (fC (.im (.num 0)))) (fCons (f2 ixU (fVar 1) (fC (.im (.num 2)))) fNil))))))) [some (.im r), some (.im (piD b n m)), none] = some (.rt (.bl true)) := by
  simp only [fRet, fU, fAnd, fOr, fB, f1, f2, f3, fSeq, fNext, fIfS, fIf, fC, fSet, fDrop, fItems, itemsU_b, itemsU_ls, itemsU_tup, fTup, fLst, fCons, fConsF, fNil, fCall, fCallD, fNot, fChain, fUnp, fPar, setAllU, fVar_0, fVar_s, Option.bind_some, Option.bind_none, Option.map_some, isB_bl, eqU_im, eqU_ls, eqU_bb, neU_im, neU_ls, neU_bl, ltU_num, gtU_num, leU_num, geU_num, addU_num, subU_num, negU_num, isN_tup, isN_none, notN_tup, notN_none, ims_nil, ims_im, okAl_im, okAl_bl, okAl_nil, okRt_im, okRt_bl, okRt_nil, mut_im, mut_bl, mut_ls, mut_dc, lenU_tup, lenU_ls, tupU_tup, listU_tup, listU_ls, intU_num, ixU_tup, ixU_ls, ixU_dc, cutU_c, ixc0, ixc1, ixc2, ixp0, ixp1, mkTup_2, mkTup_3, mkTup_nil, mkLst_nil, okArgs_im, okArgs_nil, atI_0, atI_1, atI_2, isi_num_int, isi_num_bool, isi_tup_tuple, isi_num_tuple, wipeU, List.set_cons_zero, List.set_cons_succ, List.length_cons, List.length_nil, List.map_cons, List.map_nil, if_true, if_false, if_pos, Bool.false_eq_true, Bool.not_true, Bool.not_false, Bool.true_or, Bool.false_or, List.isEmpty_nil, List.isEmpty_cons, Option.map_none, pi0, pi1, pi2, e1, e2, e3, e4, atI_last, decide_true]
theorem E_is_piece {p : Pc} (h : Kp p) : F_is_piece [.im (rD r0), .im (pcD p)] = some (.bl true) := by
  have hl := h.len
  have e3 := E_phases_in (r := r0) r0_ok (b := p.1) (n := p.2.1 + 1) (by omega) (by have := h.n8; omega) fun i hi => h.lim (by have := h.n8; omega)
  have ec : ((p.2.1 + 1 : Nat) : Int) = (p.2.1 : Int) + 1 := by omega
  rw [phases_succ, List.map_append, ec] at e3
  have e4 := E_shifted_in p.1 p.2.2 (by omega)
  have e3 : F_phases_in [.im (rD r0), .im (bD p.1), .im (.num ((p.2.1 : Int) + 1))] = some (.ls ((phases r0 p.1 p.2.1).map bD ++ [bD (shift p.2.2 p.1)])) := by
    rw [← h.round]
    exact e3
  have q : g_is_piece [some (.im (rD r0)), some (.im (pcD p)), none] = some (.rt (.bl true)) := piece_gen (E_is_piece_shape h) (E_need_states h.one (by omega)) e3 e4
  unfold F_is_piece runG
  show (g_is_piece [some (.im (rD r0)), some (.im (pcD p)), none]).bind _ = _
  rw [q]
  rfl
end VL

set_option Elab.async false
set_option linter.all false
set_option maxRecDepth 100000
set_option maxHeartbeats 400000
/-! VMs: census, form_of; the kit's pieces. -/
namespace VL
open PySem L2 PyProof.Rows

theorem needp_gen {F : List U → Option U} {a b : D} (e : F [.im a, .im b] = some (.bl true)) : (fIfS (fNot (fB (fCallD F (fCons (fVar 0) (fCons (fVar 1) fNil))))) (fun _ => none) fNext) [some (.im a), some (.im b)] = some (.nx [some (.im a), some (.im b)]) := by
  simp only [fRet, fU, fAnd, fOr, fB, f1, f2, f3, fSeq, fNext, fIfS, fIf, fC, fSet, fDrop, fItems, itemsU_b, itemsU_ls, itemsU_tup, fTup, fLst, fCons, fConsF, fNil, fCall, fCallD, fNot, fChain, fUnp, fPar, setAllU, fVar_0, fVar_s, Option.bind_some, Option.bind_none, Option.map_some, isB_bl, eqU_im, eqU_ls, eqU_bb, neU_im, neU_ls, neU_bl, ltU_num, gtU_num, leU_num, geU_num, addU_num, subU_num, negU_num, isN_tup, isN_none, notN_tup, notN_none, ims_nil, ims_im, okAl_im, okAl_bl, okAl_nil, okRt_im, okRt_bl, okRt_nil, mut_im, mut_bl, mut_ls, mut_dc, lenU_tup, lenU_ls, tupU_tup, listU_tup, listU_ls, intU_num, ixU_tup, ixU_ls, ixU_dc, cutU_c, ixc0, ixc1, ixc2, ixp0, ixp1, mkTup_2, mkTup_3, mkTup_nil, mkLst_nil, okArgs_im, okArgs_nil, atI_0, atI_1, atI_2, isi_num_int, isi_num_bool, isi_tup_tuple, isi_num_tuple, wipeU, List.set_cons_zero, List.set_cons_succ, List.length_cons, List.length_nil, List.map_cons, List.map_nil, if_true, if_false, if_pos, Bool.false_eq_true, Bool.not_true, Bool.not_false, Bool.true_or, Bool.false_or, List.isEmpty_nil, List.isEmpty_cons, Option.map_none, e]
theorem E_need_piece {p : Pc} (h : Kp p) : F_need_piece [.im (rD r0), .im (pcD p)] = some (.im .none) := by
  have q : g_need_piece [some (.im (rD r0)), some (.im (pcD p))] = some (.nx [some (.im (rD r0)), some (.im (pcD p))]) := needp_gen (E_is_piece h)
  unfold F_need_piece runG
  show (g_need_piece [some (.im (rD r0)), some (.im (pcD p))]).bind _ = _
  rw [q]
  rfl
theorem formof_gen {Fr Fp Ff : List U → Option U} {a b x : D} (e1 : Fr [.im a] = some (.im .none)) (e2 : Fp [.im a, .im b] = some (.im .none)) (e3 : Ff [.im a, .im b] = some (.im x)) :
    (fSeq (fDrop (fCallD Fr (fCons (fVar 0) fNil))) (fSeq (fDrop (fCallD Fp (fCons (fVar 0) (fCons (fVar 1) fNil)))) (fRet [] [] (fCallD Ff (fCons (fVar 0) (fCons (fVar 1) fNil)))))) [some (.im a), some (.im b)] = some (.rt (.im x)) := by
  simp only [fRet, fU, fAnd, fOr, fB, f1, f2, f3, fSeq, fNext, fIfS, fIf, fC, fSet, fDrop, fItems, itemsU_b, itemsU_ls, itemsU_tup, fTup, fLst, fCons, fConsF, fNil, fCall, fCallD, fNot, fChain, fUnp, fPar, setAllU, fVar_0, fVar_s, Option.bind_some, Option.bind_none, Option.map_some, isB_bl, eqU_im, eqU_ls, eqU_bb, neU_im, neU_ls, neU_bl, ltU_num, gtU_num, leU_num, geU_num, addU_num, subU_num, negU_num, isN_tup, isN_none, notN_tup, notN_none, ims_nil, ims_im, okAl_im, okAl_bl, okAl_nil, okRt_im, okRt_bl, okRt_nil, mut_im, mut_bl, mut_ls, mut_dc, lenU_tup, lenU_ls, tupU_tup, listU_tup, listU_ls, intU_num, ixU_tup, ixU_ls, ixU_dc, cutU_c, ixc0, ixc1, ixc2, ixp0, ixp1, mkTup_2, mkTup_3, mkTup_nil, mkLst_nil, okArgs_im, okArgs_nil, atI_0, atI_1, atI_2, isi_num_int, isi_num_bool, isi_tup_tuple, isi_num_tuple, wipeU, List.set_cons_zero, List.set_cons_succ, List.length_cons, List.length_nil, List.map_cons, List.map_nil, if_true, if_false, if_pos, Bool.false_eq_true, Bool.not_true, Bool.not_false, Bool.true_or, Bool.false_or, List.isEmpty_nil, List.isEmpty_cons, Option.map_none, e1, e2, e3]
theorem E_form_of {p : Pc} (h : Kp p) : F_form_of [.im (rD r0), .im (pcD p)] = some (.im (bD (fm r0 p))) := by
  have q : g_form_of [some (.im (rD r0)), some (.im (pcD p))] = some (.rt (.im (bD (fm r0 p)))) := formof_gen (E_need_rule r0_ok) (E_need_piece h) (fm_ev r0_ok h.ok)
  unfold F_form_of runG
  show (g_form_of [some (.im (rD r0)), some (.im (pcD p))]).bind _ = _
  rw [q]
  rfl
theorem nopc_lc {F : List U → Option U} {r pz : D} {ps : List Pc} (hl : ps.length ≤ 1000) (e : ∀ p ∈ ps, F [.im r, .im (pcD p)] = some (.bl true)) : fLc (fItems (fVar 1)) (bName 2) (fNot (fB (fCallD F (fCons (fVar 0) (fCons (fVar 2) fNil))))) (fVar 2) [2] [some (.im r), some (.im (psD ps)), none] = some (.ls []) := by
  have h := lcGo_map (b := bName 2) (ft := fNot (fB (fCallD F (fCons (fVar 0) (fCons (fVar 2) fNil))))) (fe := fVar 2) (τ := [some (.im r), some (.im (psD ps)), none]) pcD (fun _ => false) pcD ps (fun p hp => ⟨_, rfl, by
    show fNot (fB (fCallD F (fCons (fVar 0) (fCons (fVar 2) fNil)))) [some (.im r), some (.im (psD ps)), some (.im (pcD p))] = _
    simp only [fRet, fU, fAnd, fOr, fB, f1, f2, f3, fSeq, fNext, fIfS, fIf, fC, fSet, fDrop, fItems, itemsU_b, itemsU_ls, itemsU_tup, fTup, fLst, fCons, fConsF, fNil, fCall, fCallD, fNot, fChain, fUnp, fPar, setAllU, fVar_0, fVar_s, Option.bind_some, Option.bind_none, Option.map_some, isB_bl, eqU_im, eqU_ls, eqU_bb, neU_im, neU_ls, neU_bl, ltU_num, gtU_num, leU_num, geU_num, addU_num, subU_num, negU_num, isN_tup, isN_none, notN_tup, notN_none, ims_nil, ims_im, okAl_im, okAl_bl, okAl_nil, okRt_im, okRt_bl, okRt_nil, mut_im, mut_bl, mut_ls, mut_dc, lenU_tup, lenU_ls, tupU_tup, listU_tup, listU_ls, intU_num, ixU_tup, ixU_ls, ixU_dc, cutU_c, ixc0, ixc1, ixc2, ixp0, ixp1, mkTup_2, mkTup_3, mkTup_nil, mkLst_nil, okArgs_im, okArgs_nil, atI_0, atI_1, atI_2, isi_num_int, isi_num_bool, isi_tup_tuple, isi_num_tuple, wipeU, List.set_cons_zero, List.set_cons_succ, List.length_cons, List.length_nil, List.map_cons, List.map_nil, if_true, if_false, if_pos, Bool.false_eq_true, Bool.not_true, Bool.not_false, Bool.true_or, Bool.false_or, List.isEmpty_nil, List.isEmpty_cons, Option.map_none, e p hp], fun z => by cases z⟩)
  have e2 : (ps.filter fun _ => false) = [] := List.filter_eq_nil_iff.mpr fun _ _ => Bool.false_ne_true
  rw [e2] at h
  unfold fLc
  rw [show fItems (fVar 1) [some (.im r), some (.im (psD ps)), none] = some (ps.map pcD) from rfl, Option.bind_some, if_pos (lt_size (by rw [List.length_map]; omega))]
  exact congrArg (Option.map U.ls) h
theorem isi_ps (ps : List Pc) : isiU "tuple" (.im (psD ps)) = some (.bl true) := isi_tup_tuple _
theorem census_gen {Fr Fc : List U → Option U} {lcf : Sh → Option U} {a x : D} {ps : List Pc} (e1 : Fr [.im a] = some (.im .none)) (e2 : lcf [some (.im a), some (.im (psD ps)), none] = some (.ls [])) (e3 : Fc [.im a, .im (psD ps)] = some (.im x)) :
    (fSeq (fDrop (fCallD Fr (fCons (fVar 0) fNil)))
    (fSeq (fIfS (fOr (fNot (fB (f1 (isiU "tuple") (fVar 1)))) (fB (f2 neU lcf (fLst fNil)))) (fun _ => none) fNext)
    (fRet [] [] (fCallD Fc (fCons (fVar 0) (fCons (fVar 1) fNil)))))) [some (.im a), some (.im (psD ps)), none] = some (.rt (.im x)) := by
  simp only [fRet, fU, fAnd, fOr, fB, f1, f2, f3, fSeq, fNext, fIfS, fIf, fC, fSet, fDrop, fItems, itemsU_b, itemsU_ls, itemsU_tup, fTup, fLst, fCons, fConsF, fNil, fCall, fCallD, fNot, fChain, fUnp, fPar, setAllU, fVar_0, fVar_s, Option.bind_some, Option.bind_none, Option.map_some, isB_bl, eqU_im, eqU_ls, eqU_bb, neU_im, neU_ls, neU_bl, ltU_num, gtU_num, leU_num, geU_num, addU_num, subU_num, negU_num, isN_tup, isN_none, notN_tup, notN_none, ims_nil, ims_im, okAl_im, okAl_bl, okAl_nil, okRt_im, okRt_bl, okRt_nil, mut_im, mut_bl, mut_ls, mut_dc, lenU_tup, lenU_ls, tupU_tup, listU_tup, listU_ls, intU_num, ixU_tup, ixU_ls, ixU_dc, cutU_c, ixc0, ixc1, ixc2, ixp0, ixp1, mkTup_2, mkTup_3, mkTup_nil, mkLst_nil, okArgs_im, okArgs_nil, atI_0, atI_1, atI_2, isi_num_int, isi_num_bool, isi_tup_tuple, isi_num_tuple, wipeU, List.set_cons_zero, List.set_cons_succ, List.length_cons, List.length_nil, List.map_cons, List.map_nil, if_true, if_false, if_pos, Bool.false_eq_true, Bool.not_true, Bool.not_false, Bool.true_or, Bool.false_or, List.isEmpty_nil, List.isEmpty_cons, Option.map_none, isi_ps, e1, e2, e3, decide_true]
theorem E_census {ps : List Pc} (h : ∀ p ∈ ps, Kp p) (hl : ps.length ≤ 1000) : F_census [.im (rD r0), .im (psD ps)] = some (.im (cenD (cenK r0 ps) (cenF r0 ps))) := by
  have q : g_census [some (.im (rD r0)), some (.im (psD ps)), none] = some (.rt (.im (cenD (cenK r0 ps) (cenF r0 ps)))) := census_gen (E_need_rule r0_ok) (nopc_lc (pz := .none) hl fun p hp => E_is_piece (h p hp)) (E_census_in r0_ok (fun p hp => (h p hp).ok) hl)
  unfold F_census runG
  show (g_census [some (.im (rD r0)), some (.im (psD ps)), none]).bind _ = _
  rw [q]
  rfl

/-! ### the kit -/
def kit : List Pc := [
  ([(0, 2, 1), (1, 0, 1), (1, 2, 1), (2, 1, 1), (2, 2, 1)], 4, (1, 1)),
  ([(0, 0, 1), (1, 0, 1), (2, 0, 1)], 2, (0, 0)),
  ([(0, 0, 1), (0, 1, 1), (1, 0, 1), (1, 1, 1)], 1, (0, 0)),
  ([(0, 0, 1), (0, 2, 1), (1, 3, 1), (2, 3, 1), (3, 0, 1), (3, 3, 1), (4, 1, 1), (4, 2, 1), (4, 3, 1)], 4, (2, 0))]
theorem kit_round : ∀ p ∈ kit, stN r0 p.2.1 p.1 = shift p.2.2 p.1 := by decide +kernel
instance (b : List Cell) : Decidable (IsB b) := by unfold IsB; infer_instance
theorem kit_its : ∀ p ∈ kit, IsB p.1 ∧ (∀ c ∈ p.1, c.2.2 = 1) ∧ p.1 ≠ [] ∧ (p.2.1 = 1 ∨ p.2.1 = 2 ∨ p.2.1 = 4) ∧ (∀ c ∈ p.1, 0 ≤ c.1 ∧ c.1 < 0 + 5 ∧ 0 ≤ c.2.1 ∧ c.2.1 < 0 + 5) ∧ (0 ≤ p.2.2.1 ∧ p.2.2.1 ≤ 2 ∧ 0 ≤ p.2.2.2 ∧ p.2.2.2 ≤ 2) := by decide +kernel
theorem kit_good {p : Pc} (hp : p ∈ kit) : Good p.1 := ⟨(kit_its p hp).1, fun c hc => by rw [(kit_its p hp).2.1 c hc]; exact Int.le_refl 1⟩
/-- what the law makes of a piece of the kit -/
def made (p : Pc) (t : Nat) (q : Nat) (d : Pl) : Pc := (shift d (turn t p.1), p.2.1 * q, ((turnP t p.2.2).1 * (q : Int), (turnP t p.2.2).2 * (q : Int)))
theorem turn_bd (t : Nat) (p : Pl) (k : Int) (h : -k ≤ p.1 ∧ p.1 ≤ k ∧ -k ≤ p.2 ∧ p.2 ≤ k) : -k ≤ (turnP t p).1 ∧ (turnP t p).1 ≤ k ∧ -k ≤ (turnP t p).2 ∧ (turnP t p).2 ≤ k := by
  refine turn_cases (C := fun t => -k ≤ (turnP t p).1 ∧ (turnP t p).1 ≤ k ∧ -k ≤ (turnP t p).2 ∧ (turnP t p).2 ≤ k) t (fun t e => by rw [e]; exact h) ?_ ?_ ?_ ?_ ?_ ?_ ?_ <;> (simp only [turnP]; omega)
theorem kit_kp {p : Pc} (hp : p ∈ kit) {t : Nat} {q : Nat} (hq : q = 1 ∨ q = 2) {d : Pl} (hd : -50 ≤ d.1 ∧ d.1 ≤ 50 ∧ -50 ≤ d.2 ∧ d.2 ≤ 50) : Kp (made p t q d) := by
  obtain ⟨_, k1, k2, k3, k4, k5⟩ := kit_its p hp
  have kg := kit_good hp
  have kr := kit_round p hp
  have M1 := turn_mv t kg
  have M := mv_then M1 (shift_mv (m := d) M1.good)
  have R1 : Mv 0 p.2.2 p.1 (stN r0 p.2.1 p.1) := by rw [kr]; exact shift_mv kg
  have R2 := comes_round r0_ok kg (j := 0) R1 M
  have tb := turn_bd t p.2.2 2 (by omega)
  have S0 : Sm 0 5 p.1 := ⟨0, 0, by decide, by decide, by decide, by decide, k4⟩
  have S1 := S0.mv (by omega) M (j := 50) (by show -50 ≤ 0 + d.1 ∧ 0 + d.1 ≤ 50; omega) (by show -50 ≤ 0 + d.2 ∧ 0 + d.2 ≤ 50; omega)
  refine ⟨M.good, fun z => ?_, ?_, ?_, S1.le (by omega) (by omega), fun c hc => ?_, ?_, ?_⟩
  · have e : (shift d (turn t p.1)).length = p.1.length := by unfold shift; rw [List.length_map, turn_len]
    have z : shift d (turn t p.1) = [] := z
    rw [z] at e
    exact k2 (List.length_eq_zero_iff.mp e.symm)
  · show 1 ≤ p.2.1 * q
    rcases k3 with e | e | e <;> rcases hq with rfl | rfl <;> rw [e] <;> decide
  · show p.2.1 * q ≤ 8
    rcases k3 with e | e | e <;> rcases hq with rfl | rfl <;> rw [e] <;> decide
  · obtain ⟨x, hx, rfl⟩ := (M.mem c).mp hc
    exact k1 x hx
  · show stN r0 (p.2.1 * q) (shift d (turn t p.1)) = shift ((turnP t p.2.2).1 * (q : Int), (turnP t p.2.2).2 * (q : Int)) (shift d (turn t p.1))
    rcases hq with rfl | rfl
    · rw [Nat.mul_one, R2.is_shift M.good]
      congr 1
      exact Prod.ext (by show _ = _ * 1; omega) (by show _ = _ * 1; omega)
    · have R3 := R2.stN r0_ok M.good p.2.1
      have R4 := mv_then R2 R3
      rw [Nat.mul_two, stN_add, R4.is_shift M.good]
      congr 1
      exact Prod.ext (by show _ + _ = _ * 2; omega) (by show _ + _ = _ * 2; omega)
  · show -1000 ≤ (turnP t p.2.2).1 * (q : Int) ∧ (turnP t p.2.2).1 * (q : Int) ≤ 1000 ∧ -1000 ≤ (turnP t p.2.2).2 * (q : Int) ∧ (turnP t p.2.2).2 * (q : Int) ≤ 1000
    rcases hq with rfl | rfl
    · show -1000 ≤ (turnP t p.2.2).1 * 1 ∧ (turnP t p.2.2).1 * 1 ≤ 1000 ∧ -1000 ≤ (turnP t p.2.2).2 * 1 ∧ (turnP t p.2.2).2 * 1 ≤ 1000
      omega
    · show -1000 ≤ (turnP t p.2.2).1 * 2 ∧ (turnP t p.2.2).1 * 2 ≤ 1000 ∧ -1000 ≤ (turnP t p.2.2).2 * 2 ∧ (turnP t p.2.2).2 * 2 ≤ 1000
      omega
end VL

set_option Elab.async false
set_option linter.all false
set_option maxRecDepth 100000
set_option maxHeartbeats 1000000
/-! VMt: _law_taken, which changes the row. -/
namespace VL
open PySem L2 PyProof.Rows

/-- sc is another one than a, or an old one of the text's own -/
def NeK (K : PySem.W.Frag) (sc a : Addr) (xs : List V) : Prop := sc ≠ a ∨ ∃ (o : Obj) (its : Array Value) (n : Nat), K.lookup sc = some o ∧ o.cls = .type "list" ∧ o.dict = none ∧ o.data = .seq its n ∧ its.size ≤ sizeLine ∧ Vals xs its.toList
/-- the row at a: the script, the place, the seed, the rest -/
def RowAt (K : PySem.W.Frag) (sc : Addr) (H : Hp) (a : Addr) : Prop := ∃ (xs : List Int) (i seed rest : Int), H a = some (.lst [.ref sc, .int i, .int seed, .int rest]) ∧ NeK K sc a (xs.map V.int) ∧ SqL K H sc (xs.map V.int) ∧ 0 ≤ i
def Keep (a : Addr) (H H' : Hp) : Prop := ∀ b o, b ≠ a → H b = some o → H' b = some o
theorem Keep.refl (a : Addr) (H : Hp) : Keep a H H := fun _ _ _ h => h
theorem Keep.trans {a : Addr} {H H1 H2 : Hp} (h : Keep a H H1) (k : Keep a H1 H2) : Keep a H H2 := fun b o n e => k b o n (h b o n e)
theorem Keep.upd (a : Addr) (H : Hp) (o : HO) : Keep a H (upd H a o) := fun b o' n e => by rw [upd_ne n]; exact e
theorem sql_keep {K : PySem.W.Frag} {H : Hp} {a b : Addr} {o : HO} {xs : List V} (h : SqL K H b xs) (n : NeK K b a xs) (t : NoTup (H a)) : SqL K (L2.upd H a o) b xs := by
  rcases n with n | n
  · rcases h with (h | h) | h
    · exact .inl (.inl (by rw [upd_ne n]; exact h))
    · exact .inl (.inr (by rw [upd_ne n]; exact h))
    · exact .inr h
  · exact .inr n
theorem at4_0 {a b c d : V} : L2.atI [a, b, c, d] 0 = some a := atI_nat (j := 0) rfl
theorem at4_1 {a b c d : V} : L2.atI [a, b, c, d] 1 = some b := atI_nat (j := 1) rfl
theorem at4_2 {a b c d : V} : L2.atI [a, b, c, d] 2 = some c := atI_nat (j := 2) rfl
theorem at4_3 {a b c d : V} : L2.atI [a, b, c, d] 3 = some d := atI_nat (j := 3) rfl
theorem ix4 {a b c d : V} : L2.ixN [a, b, c, d].length 1 = some 1 ∧ L2.ixN [a, b, c, d].length 2 = some 2 ∧ L2.ixN [a, b, c, d].length 3 = some 3 := ⟨rfl, rfl, rfl⟩
def spTaken (K : PySem.W.Frag) : Sp := fun vs H Q _ => ∃ (sc a : Addr) (n : Int), vs = [.ref a, .int n] ∧ RowAt K sc H a ∧ 1 ≤ n ∧ n < 1000 ∧ ∀ (v : Int) (H' : Hp), 0 ≤ v → v < n → RowAt K sc H' a → Keep a H H' → Q (.int v) H'
section
variable {P : Program} {w : World} {K : PySem.W.Frag} {mg : Str → Option Value} {base : Heap}
theorem d__law_taken (C : Cs K mg) : DS P w K mg base 1 "_law_taken" ["_law_row", "_law_many"] (spTaken K) := by
  obtain ⟨f, fd, hm, F, b⟩ := C.t__law_taken.ex
  refine ⟨f, fd, hm, F.kp, b, F.ok sc__law_taken (fun vs H Q E h => ?_) (fun cdv A outer s H vs Q E hr h => ?_)⟩
  · obtain ⟨sc, a, n, rfl, _⟩ := h
    rfl
  · obtain ⟨sc, a, n, rfl, ⟨xs, i, seed, rest, h, ne, hsc, hi⟩, n1, n2, k⟩ := h
    have nt : ∀ {H' : Hp} {r : List V}, H' a = some (.lst r) → NoTup (H' a) := fun e => by rw [e]; trivial
    refine ⟨_, pss_cons (ps_if (pt_cmpR op_gt (pe_ix ix_list (pv 0) pe_int (fun _ _ => rfl)) pe_int (nomark _))
        (pss_cons (ps_set (i := 2) sc__law_taken.nd rfl (.inl rfl) (pe_op op_mod (pe_callTy call_int1 rfl C.b_int (by decide +kernel) (pa_cons (pe_ix ix_list (pv 0) pe_int (fun _ _ => rfl)) pa_nil)) (pv 1)))
        (pss_cons (ps_asg (pe_op op_fdiv (pe_ix ix_list (pv 0) pe_int (fun _ _ => rfl)) (pv 1)) (pg_sub (pv 0) pe_int set_list))
        (pss_one (ps_ret (pv 2))))) pss_nil)
      (pss_cons (ps_asg (pe_op op_add (pe_ix ix_list (pv 0) pe_int (fun _ _ => rfl)) pe_int) (pg_sub (pv 0) pe_int set_list))
      (pss_cons (ps_if (pt_cmpR op_gt (pe_ix ix_list (pv 0) pe_int (fun _ _ => rfl)) (pe_callB call_len_seq rfl C.b_len (by decide +kernel) (pa_cons (pe_ix ix_list (pv 0) pe_int (fun _ _ => rfl)) pa_nil)) (nomark _))
        (pss_cons (ps_asg (pe_op op_mod (pe_callTy call_int1 rfl C.b_int (by decide +kernel) (pa_cons (pe_op op_add (pe_op op_mul (pe_ix ix_list (pv 0) pe_int (fun _ _ => rfl)) pe_int) pe_int) pa_nil)) pe_int) (pg_sub (pv 0) pe_int set_list))
        (pss_one (ps_ret (pe_op op_mod (pe_callTy call_int1 rfl C.b_int (by decide +kernel) (pa_cons (pe_op op_fdiv (pe_ix ix_list (pv 0) pe_int (fun _ _ => rfl)) pe_int) pa_nil)) (pv 1))))) pss_nil)
      (pss_cons (ps_set (i := 3) sc__law_taken.nd rfl (.inl rfl) (pe_ix ix_list (pe_ix ix_list (pv 0) pe_int (fun _ _ => rfl)) (pe_op op_sub (pe_ix ix_list (pv 0) pe_int (fun _ _ => rfl)) pe_int) (fun _ _ => rfl)))
      (pss_cons (ps_asg (pe_op op_mod (pe_callTy call_int1 rfl C.b_int (by decide +kernel) (pa_cons (pe_op op_add (pe_op op_add (pe_op op_mul (pe_ix ix_list (pv 0) pe_int (fun _ _ => rfl)) pe_int) (pv 3)) pe_int) pa_nil)) pe_int) (pg_sub (pv 0) pe_int set_list))
      (pss_cons (ps_if (pt_cmpR op_ge (pv 3) (pe_op op_pow pe_int pe_int) (nomark _)) (pss_one (ps_asg (pe_op op_fdiv (pv 3) (pv 1)) (pg_sub (pv 0) pe_int set_list))) pss_nil)
      (pss_one (ps_ret (pe_op op_mod (pe_callTy call_int1 rfl C.b_int (by decide +kernel) (pa_cons (pv 3) pa_nil)) (pv 1))))))))), ?_⟩
    refine ⟨_, rfl, a, _, 3, _, rfl, rfl, SqL.of h, at4_3, _, _, rfl, rfl, _, rfl, ?_⟩
    by_cases hrest : (0 : Int) < rest
    · show if decide ((0 : Int) < rest) = true then _ else _
      rw [if_pos (decide_eq_true hrest)]
      refine ⟨_, rfl, a, _, 3, _, rfl, rfl, SqL.of h, at4_3, .inl ⟨_, rfl, _, rfl, _, _, rfl, rfl, (by omega), ?_⟩⟩
      refine ⟨_, rfl, a, _, 3, _, rfl, rfl, SqL.of h, at4_3, _, rfl, _, _, rfl, rfl, ⟨by omega, by omega⟩, _, rfl, a, _, 3, 3, rfl, rfl, h, rfl, ?_⟩
      refine ⟨_, rfl, ?_⟩
      exact k _ _ (Int.emod_nonneg _ (by omega)) (Int.emod_lt_of_pos _ (by omega)) ⟨xs, i, seed, rest / n, upd_same, ne, sql_keep hsc ne (nt h), hi⟩ (Keep.upd _ _ _)
    · show if decide ((0 : Int) < rest) = true then _ else _
      rw [if_neg (by simpa using hrest)]
      -- row[1] = row[1] + 1
      refine ⟨_, rfl, a, _, 1, _, rfl, rfl, SqL.of h, at4_1, _, _, rfl, rfl, _, rfl, a, _, 1, 1, rfl, rfl, h, rfl, ?_⟩
      have k1 : Keep a H (L2.upd H a (.lst [.ref sc, .int (i + 1), .int seed, .int rest])) := Keep.upd _ _ _
      have s1 : SqL K (L2.upd H a (.lst [.ref sc, .int (i + 1), .int seed, .int rest])) sc (xs.map V.int) := sql_keep hsc ne (nt h)
      have h1 : (L2.upd H a (.lst [.ref sc, .int (i + 1), .int seed, .int rest])) a = some (.lst [.ref sc, .int (i + 1), .int seed, .int rest]) := upd_same
      refine ⟨_, rfl, a, _, 1, _, rfl, rfl, SqL.of h1, at4_1, _, rfl, a, _, 0, _, rfl, rfl, SqL.of h1, at4_0, sc, _, rfl, .inl s1, _, _, rfl, rfl, _, rfl, ?_⟩
      by_cases hlen : ((xs.map V.int).length : Int) < i + 1
      · show if decide (((xs.map V.int).length : Int) < i + 1) = true then _ else _
        rw [if_pos (decide_eq_true hlen)]
        refine ⟨_, rfl, a, _, 2, _, rfl, rfl, SqL.of h1, at4_2, _, _, rfl, rfl, (by right; decide), _, _, rfl, rfl, .inl ⟨_, rfl, _, _, rfl, rfl, (show (0 : Int) < 2147483647 by decide), _, rfl, a, _, 2, 2, rfl, rfl, h1, rfl, ?_⟩⟩
        refine ⟨_, rfl, a, _, 2, _, rfl, rfl, SqL.of upd_same, at4_2, _, _, rfl, rfl, ⟨by decide, by decide⟩, .inl ⟨_, rfl, _, rfl, _, _, rfl, rfl, (by omega), ?_⟩⟩
        exact k _ _ (Int.emod_nonneg _ (by omega)) (Int.emod_lt_of_pos _ (by omega)) ⟨xs, i + 1, _, rest, upd_same, ne, sql_keep s1 ne (nt h1), by omega⟩ (k1.trans (Keep.upd _ _ _))
      · show if decide (((xs.map V.int).length : Int) < i + 1) = true then _ else _
        rw [if_neg (by simpa using hlen)]
        obtain ⟨j, rfl⟩ := Int.eq_ofNat_of_zero_le hi
        have hj : j < xs.length := by rw [List.length_map] at hlen; omega
        have ej : L2.atI (xs.map V.int) ((j : Int) + 1 - 1) = some (.int xs[j]) := by
          rw [show (j : Int) + 1 - 1 = (j : Int) by omega]
          exact atI_nat (by rw [List.getElem?_map, List.getElem?_eq_getElem hj]; rfl)
        refine ⟨_, rfl, a, _, 0, _, rfl, rfl, SqL.of h1, at4_0, _, rfl, a, _, 1, _, rfl, rfl, SqL.of h1, at4_1, _, _, rfl, rfl, sc, _, _, _, rfl, rfl, s1, ej, ?_⟩
        -- row[2] = int(row[2] * 48271 + cell + 11) % 2147483647
        refine ⟨_, rfl, a, _, 2, _, rfl, rfl, SqL.of h1, at4_2, _, _, rfl, rfl, (by right; decide), _, rfl, _, _, rfl, rfl, _, _, rfl, rfl, .inl ⟨_, rfl, _, _, rfl, rfl, (show (0 : Int) < 2147483647 by decide), _, rfl, a, _, 2, 2, rfl, rfl, h1, rfl, ?_⟩⟩
        have k2 := k1.trans (Keep.upd a (L2.upd H a (.lst [.ref sc, .int ((j : Int) + 1), .int seed, .int rest])) (.lst [.ref sc, .int ((j : Int) + 1), .int ((seed * 48271 + xs[j] + 11) % 2147483647), .int rest]))
        have s2 : SqL K (L2.upd (L2.upd H a (.lst [.ref sc, .int ((j : Int) + 1), .int seed, .int rest])) a (.lst [.ref sc, .int ((j : Int) + 1), .int ((seed * 48271 + xs[j] + 11) % 2147483647), .int rest])) sc (xs.map V.int) := sql_keep s1 ne (nt h1)
        -- if cell >= 10 ** 18
        refine ⟨_, rfl, _, _, rfl, rfl, ⟨by decide, by decide, by decide⟩, _, _, rfl, rfl, _, rfl, ?_⟩
        by_cases hbig : (10 ^ (18 : Int).toNat : Int) ≤ xs[j]
        · show if decide ((10 ^ (18 : Int).toNat : Int) ≤ xs[j]) = true then _ else _
          rw [if_pos (decide_eq_true hbig)]
          refine ⟨_, rfl, _, rfl, _, _, rfl, rfl, ⟨by omega, by omega⟩, _, rfl, a, _, 3, 3, rfl, rfl, upd_same, rfl, ?_⟩
          refine ⟨_, rfl, .inl ⟨_, rfl, _, rfl, _, _, rfl, rfl, (by omega), ?_⟩⟩
          exact k _ _ (Int.emod_nonneg _ (by omega)) (Int.emod_lt_of_pos _ (by omega)) ⟨xs, (j : Int) + 1, _, _, upd_same, ne, sql_keep s2 ne (nt upd_same), by omega⟩ (k2.trans (Keep.upd _ _ _))
        · show if decide ((10 ^ (18 : Int).toNat : Int) ≤ xs[j]) = true then _ else _
          rw [if_neg (by simpa using hbig)]
          refine ⟨_, rfl, .inl ⟨_, rfl, _, rfl, _, _, rfl, rfl, (by omega), ?_⟩⟩
          exact k _ _ (Int.emod_nonneg _ (by omega)) (Int.emod_lt_of_pos _ (by omega)) ⟨xs, (j : Int) + 1, _, rest, upd_same, ne, s2, by omega⟩ k2
end
end VL

set_option Elab.async false
set_option linter.all false
set_option maxRecDepth 100000
set_option maxHeartbeats 1000000
/-! VMu: _law_pick, _law_signed. -/
namespace VL
open PySem L2 PyProof.Rows

theorem Keep.tk {K : PySem.W.Frag} {a : Addr} {H H' : Hp} (h : Keep a H H') (n : NoTup (H a)) : TKeep K H H' := fun b xs t => by
  rcases t with (t | ⟨o, t⟩) | t
  · by_cases e : b = a
    · subst e
      rw [t] at n
      exact n.elim
    · exact .inl (.inl (h b _ e t))
  · by_cases e : b = a
    · subst e
      rw [t] at n
      exact n.elim
    · exact .inl (.inr ⟨o, h b _ e t⟩)
  · exact .inr t
theorem RowAt.nt {K : PySem.W.Frag} {H : Hp} {sc a : Addr} (h : RowAt K sc H a) : NoTup (H a) := by
  obtain ⟨xs, i, s, r, e, _⟩ := h
  rw [e]
  trivial
theorem Same.keep {a : Addr} {H H' : Hp} (h : Same H H') : Keep a H H' := fun b o _ e => h b o e
theorem RowAt.same {K : PySem.W.Frag} {H H' : Hp} {sc a : Addr} (h : RowAt K sc H a) (s : Same H H') : RowAt K sc H' a := by
  obtain ⟨xs, i, sd, r, e, ne, sq, hi⟩ := h
  exact ⟨xs, i, sd, r, s _ _ e, ne, Same.seq s sq, hi⟩
section
variable {X : Cx} {k : Nat} {x : Str} {ps : List Str} {sp : Sp} {p pos : Pos} {e : Expr} {es : List Expr} {t : TA}
theorem pe_callDS (D : DS X.prog X.w X.K X.mg X.base k x ps sp) (hr : Room k X.A) (hg : Gl X x) (ha : PA X (e :: es) t) (hdb : (x == ("__debug__" : Str)) = false := by decide)
    (he : starEach (e :: es) X.env = (false, eval e X.env) :: starEach es X.env := by rfl) (hpl : (backTo pos (starEach es X.env)).any (·.1) = false := by rfl) : PE X (.Call (.Name x p) (e :: es) [] pos) (tCall sp [] E0 t) := by
  obtain ⟨f, fd, hm, kp, b, G⟩ := D.ex
  exact pe_call G hr hg hm kp b .nil pass0 ha hdb he hpl
end
def spPick (K : PySem.W.Frag) : Sp := fun vs H Q _ => ∃ (sc a b : Addr) (xs : List V) (ds : List D), vs = [.ref a, .ref b] ∧ RowAt K sc H a ∧ b ≠ a ∧ H b = some (.lst xs) ∧ IVs K H xs ds ∧ 1 ≤ ds.length ∧ ds.length < 1000 ∧
  ∀ d ∈ ds, ∀ (v : V) (H' : Hp), IV K H' v d → RowAt K sc H' a → Keep a H H' → Q v H'
def spSigned (K : PySem.W.Frag) : Sp := fun vs H Q _ => ∃ (sc a : Addr) (m : Int), vs = [.ref a, .int m] ∧ RowAt K sc H a ∧ 0 ≤ m ∧ m ≤ 400 ∧ ∀ (v : Int) (H' : Hp), -m ≤ v → v ≤ m → RowAt K sc H' a → Keep a H H' → Q (.int v) H'
section
variable {P : Program} {w : World} {K : PySem.W.Frag} {mg : Str → Option Value} {base : Heap}
theorem d__law_pick (C : Cs K mg) : DS P w K mg base 2 "_law_pick" ["_law_row", "_law_things"] (spPick K) := by
  obtain ⟨f, fd, hm, F, b⟩ := C.t__law_pick.ex
  refine ⟨f, fd, hm, F.kp, b, F.ok sc__law_pick (fun vs H Q E h => ?_) (fun cdv A outer s H vs Q E hr h => ?_)⟩
  · obtain ⟨sc, a, b, xs, ds, rfl, _⟩ := h
    rfl
  · obtain ⟨sc, a, b, xs, ds, rfl, R, nb, hb, iv, l1, l2, k⟩ := h
    refine ⟨_, pss_one (ps_ret (pe_ix ix_list (pv 1) (pe_callDS (d__law_taken C) (hr.mono (by decide)) rfl (pa_cons (pv 0) (pa_cons (pe_callB call_len_seq rfl C.b_len (by decide +kernel) (pa_cons (pv 1) pa_nil)) pa_nil))) (fun _ _ => rfl))), ?_⟩
    refine ⟨_, rfl, _, rfl, _, rfl, b, xs, rfl, .inl (SqL.of hb), sc, a, (xs.length : Int), rfl, R, by rw [iv.length]; omega, by rw [iv.length]; omega, fun v H' v0 v1 R' kp => ?_⟩
    obtain ⟨j, rfl⟩ := Int.eq_ofNat_of_zero_le v0
    have hj : j < xs.length := by omega
    have hj2 : j < ds.length := by rw [← iv.length]; exact hj
    have iv' := iv.keep (kp.tk R.nt)
    obtain ⟨y, e1, e2⟩ := iv'.atI (i := (j : Int)) (d := ds[j]) (atI_nat (List.getElem?_eq_getElem hj2))
    exact ⟨b, xs, (j : Int), y, rfl, rfl, SqL.of (kp b _ nb hb), e1, k _ (List.getElem_mem hj2) y H' e2 R' kp⟩
theorem d__law_signed (C : Cs K mg) : DS P w K mg base 2 "_law_signed" ["_law_row", "_law_most"] (spSigned K) := by
  obtain ⟨f, fd, hm, F, b⟩ := C.t__law_signed.ex
  refine ⟨f, fd, hm, F.kp, b, F.ok sc__law_signed (fun vs H Q E h => ?_) (fun cdv A outer s H vs Q E hr h => ?_)⟩
  · obtain ⟨sc, a, m, rfl, _⟩ := h
    rfl
  · obtain ⟨sc, a, m, rfl, R, m0, m1, k⟩ := h
    refine ⟨_, pss_one (ps_ret (pe_op op_sub (pe_callDS (d__law_taken C) (hr.mono (by decide)) rfl (pa_cons (pv 0) (pa_cons (pe_op op_add (pe_op op_mul pe_int (pv 1)) pe_int) pa_nil))) (pv 1))), ?_⟩
    refine ⟨_, rfl, _, rfl, _, _, rfl, rfl, (by left; decide), _, _, rfl, rfl, sc, a, 2 * m + 1, rfl, R, by omega, by omega, fun v H' v0 v1 R' kp => ?_⟩
    exact ⟨_, rfl, _, _, rfl, rfl, k _ H' (by omega) (by omega) R' kp⟩
end
end VL

set_option Elab.async false
set_option linter.all false
set_option maxRecDepth 100000
set_option maxHeartbeats 1000000
/-! VMv: _law_some_rule. -/
namespace VL
open PySem L2 PyProof.Rows

theorem RowAt.updI {K : PySem.W.Frag} {H : Hp} {sc a D : Addr} (h : RowAt K sc H a) (n : D ≠ a) (t : NoTup (H D)) (ns : List Int) : RowAt K sc (L2.upd H D (.lst (ns.map V.int))) a := by
  obtain ⟨xs, i, sd, r, e, ne, sq, hi⟩ := h
  by_cases q : sc = D
  · subst q
    exact ⟨ns, i, sd, r, by rw [upd_ne (Ne.symm n)]; exact e, .inl n, SqL.of upd_same, hi⟩
  · exact ⟨xs, i, sd, r, by rw [upd_ne (Ne.symm n)]; exact e, ne, sql_keep sq (.inl q) t, hi⟩
def PvL (K : PySem.W.Frag) (H0 : Hp) (sc a D : Addr) (lo : Int) (i : Nat) (H : Hp) : Prop := ∃ ns : List Int, H D = some (.lst (ns.map V.int)) ∧ ns.Pairwise (· < ·) ∧ (∀ k ∈ ns, lo ≤ k ∧ k < lo + i) ∧ ns.length ≤ i ∧ RowAt K sc H a ∧ Keep a H0 H
theorem PvL.next {K : PySem.W.Frag} {H0 H H' : Hp} {sc a D : Addr} {lo : Int} {i : Nat} (p : PvL K H0 sc a D lo i H) (nD : D ≠ a) (R : RowAt K sc H' a) (k : Keep a H H') : PvL K H0 sc a D lo (i + 1) H' := by
  obtain ⟨ns, h1, h2, h3, h4, _, h6⟩ := p
  exact ⟨ns, k D _ nD h1, h2, fun x hx => by have := h3 x hx; omega, by omega, R, h6.trans k⟩
theorem PvL.add {K : PySem.W.Frag} {H0 H H' : Hp} {sc a D : Addr} {lo : Int} {i : Nat} (p : PvL K H0 sc a D lo i H) (nD : D ≠ a) (h0 : H0 D = none) (R : RowAt K sc H' a) (k : Keep a H H') (hi : i ≤ 1000) : ∃ acc, H' D = some (.lst acc) ∧ acc.length < sizeLine ∧ PvL K H0 sc a D lo (i + 1) (L2.upd H' D (.lst (acc ++ [.int (lo + i)]))) := by
  obtain ⟨ns, h1, h2, h3, h4, _, h6⟩ := p
  have h1' := k D _ nD h1
  refine ⟨_, h1', lt_size (by rw [List.length_map]; omega), ns ++ [lo + i], ?_, ?_, ?_, ?_, ?_, ?_⟩
  · rw [upd_same, List.map_append]
    rfl
  · rw [List.pairwise_append]
    refine ⟨h2, by simp, fun x hx y hy => ?_⟩
    rw [List.mem_singleton] at hy
    subst hy
    exact (h3 x hx).2
  · intro x hx
    rcases List.mem_append.mp hx with hx | hx
    · have := h3 x hx
      omega
    · rw [List.mem_singleton] at hx
      subst hx
      omega
  · rw [List.length_append]
    show ns.length + 1 ≤ i + 1
    omega
  · have e : (ns.map V.int ++ [V.int (lo + i)]) = (ns ++ [lo + i]).map V.int := by rw [List.map_append]; rfl
    rw [e]
    exact R.updI nD (by rw [h1']; trivial) _
  · intro b o nb e
    have nbD : b ≠ D := by
      rintro rfl
      rw [h0] at e
      cases e
    rw [upd_ne nbD]
    exact k b o nb (h6 b o nb e)
theorem iv_nums {K : PySem.W.Frag} {H : Hp} {l : Addr} {ns : List Int} (h : H l = some (.tup (ns.map V.int))) : IV K H (.ref l) (nD ns) := IV.tup (SqT.of h) nums_ivs (Nat.le_trans (depth_nums ns) (by omega))
theorem shNone {P : Program} {w : World} {K : PySem.W.Frag} {H : Hp} (σ : L2.St) : ShRel P w K H σ (List.replicate σ.length none) := ⟨by rw [List.length_replicate], fun i u e => by
  rw [List.getElem?_replicate] at e
  split at e <;> cases e⟩
def spRule (K : PySem.W.Frag) : Sp := fun vs H Q _ => ∃ (sc a : Addr), vs = [.ref a] ∧ RowAt K sc H a ∧ ∀ (r : Rule) (v : V) (H' : Hp), r.Ok → IV K H' v (rD r) → RowAt K sc H' a → Keep a H H' → Q v H'
theorem iv_rule {K : PySem.W.Frag} {H : Hp} {l : Addr} {vb vs : V} {bs ss : List Int} {n : Int} (h : H l = some (.tup [vb, vs, .int n])) (h1 : IV K H vb (nD bs)) (h2 : IV K H vs (nD ss)) : IV K H (.ref l) (rD ⟨bs, ss, n⟩) :=
  IV.tup (SqT.of h) (.cons h1 (.cons h2 (.cons IV.num .nil))) (depthAll_le fun d hd => by
    simp only [List.mem_cons, List.not_mem_nil, or_false] at hd
    have := depth_nD bs
    have := depth_nD ss
    rcases hd with rfl | rfl | rfl
    · omega
    · omega
    · simp [NestedKey.depth])
section
variable {P : Program} {w : World} {K : PySem.W.Frag} {mg : Str → Option Value} {base : Heap}
theorem d__law_some_rule (C : Cs K mg) : DS P w K mg base 3 "_law_some_rule" ["_law_row"] (spRule K) := by
  obtain ⟨f, fd, hm, F, b⟩ := C.t__law_some_rule.ex
  refine ⟨f, fd, hm, F.kp, b, F.ok sc__law_some_rule (fun vs H Q E h => ?_) (fun cdv A outer s H vs Q E hr h => ?_)⟩
  · obtain ⟨sc, a, rfl, _⟩ := h
    rfl
  · obtain ⟨sc, a, rfl, R, k⟩ := h
    refine ⟨_, pss_cons (ps_set (i := 1) sc__law_some_rule.nd rfl (.inl rfl) (pe_callDS (d__law_taken C) (hr.mono (by decide)) rfl (pa_cons (pv 0) (pa_cons pe_int pa_nil))))
      (pss_cons (ps_if (pt_cmpR op_lt (pv 1) pe_int (nomark _)) (pss_one (ps_ret (pe_tup (pa_cons (pe_tup (pa_cons pe_int pa_nil)) (pa_cons (pe_tup (pa_cons pe_int (pa_cons pe_int pa_nil))) (pa_cons pe_int pa_nil)))))) pss_nil)
      (pss_cons (ps_set (i := 2) sc__law_some_rule.nd rfl (.inl rfl) (pe_callTy call_tuple_of rfl C.b_tuple (by decide +kernel) (pa_cons
        (pe_lc (g := gName 4) (te := tVar 4) rfl sc__law_some_rule.nd (pi_range2 rfl C.b_range (pa_cons pe_int (pa_cons pe_int pa_nil))) (blkOk_by (N := n__law_some_rule) (sc := defScope st__law_some_rule) (own := [("_law_k", 4)]) (by decide +kernel)) (fun _ _ _ _ _ => pg_name (i := 4) sc__law_some_rule.nd rfl (.inl rfl)) (fun _ _ _ _ _ => pts_one (pt_cmpR op_eq (pe_callDS (d__law_taken C) (hr.mono (by decide)) rfl (pa_cons (pv 0) (pa_cons pe_int pa_nil))) pe_int (nomark _))) (fun _ _ _ _ _ => pv 4)) pa_nil)))
      (pss_cons (ps_set (i := 3) sc__law_some_rule.nd rfl (.inl rfl) (pe_callTy call_tuple_of rfl C.b_tuple (by decide +kernel) (pa_cons
        (pe_lc (g := gName 4) (te := tVar 4) rfl sc__law_some_rule.nd (pi_range1 rfl C.b_range (pa_cons pe_int pa_nil)) (blkOk_by (N := n__law_some_rule) (sc := defScope st__law_some_rule) (own := [("_law_k", 4)]) (by decide +kernel)) (fun _ _ _ _ _ => pg_name (i := 4) sc__law_some_rule.nd rfl (.inl rfl)) (fun _ _ _ _ _ => pts_one (pt_cmpR op_eq (pe_callDS (d__law_taken C) (hr.mono (by decide)) rfl (pa_cons (pv 0) (pa_cons pe_int pa_nil))) pe_int (nomark _))) (fun _ _ _ _ _ => pv 4)) pa_nil)))
      (pss_one (ps_ret (pe_tup (pa_cons (pv 2) (pa_cons (pv 3) (pa_cons (pe_callDS (d__law_pick C) (hr.mono (by decide)) rfl (pa_cons (pv 0) (pa_cons (pe_lst (pa_cons pe_int (pa_cons pe_int (pa_cons pe_int (pa_cons pe_int (pa_cons pe_int pa_nil)))))) pa_nil))) pa_nil))))))))), ?_⟩
    -- way
    refine ⟨_, rfl, sc, a, 6, rfl, R, by decide, by decide, fun way H1 w0 w1 R1 k1 => ?_⟩
    refine ⟨_, rfl, _, _, rfl, rfl, _, rfl, ?_⟩
    by_cases hw : way < 3
    · show if decide (way < 3) = true then _ else _
      rw [if_pos (decide_eq_true hw)]
      refine ⟨by decide, fun p1 n1 => ⟨by decide, fun p2 n2 => ⟨(show 3 ≤ sizeLine by decide), fun p3 n3 => ?_⟩⟩⟩
      have s1 := laid_same (o := .tup [.int 3]) n1
      have s2 := laid_same (o := .tup [.int 2, .int 3]) n2
      have s3 := laid_same (o := .tup [.ref p1, .ref p2, .int 2]) n3
      have i1 : IV K (upd H1 p1 (.tup [.int 3])) (.ref p1) (nD [3]) := iv_nums upd_same
      have i2 : IV K (upd (upd H1 p1 (.tup [.int 3])) p2 (.tup [.int 2, .int 3])) (.ref p2) (nD [2, 3]) := iv_nums upd_same
      exact k r0 _ _ r0_ok (iv_rule upd_same ((i1.keep (Same.tk s2)).keep (Same.tk s3)) (i2.keep (Same.tk s3))) (((R1.same s1).same s2).same s3) (((k1.trans (Same.keep s1)).trans (Same.keep s2)).trans (Same.keep s3))
    · show if decide (way < 3) = true then _ else _
      rw [if_neg (by simpa using hw)]
      -- births
      refine ⟨2, 9, rfl, ⟨by decide, by decide, by decide, by decide⟩, fun D1 d1 => ?_⟩
      have aD1 : D1 ≠ a := by
        rintro rfl
        obtain ⟨_, _, _, _, e, _⟩ := R1
        rw [d1] at e
        cases e
      refine lc_range (PvL K H1 sc a D1 2) ⟨[], upd_same, List.Pairwise.nil, fun k hk => by simp at hk, Nat.le_refl _, R1.same (laid_same d1), Same.keep (laid_same d1)⟩ (fun i H2 hi p => ⟨rfl, ?_⟩) (fun H2 p => ?_)
      · obtain ⟨_, _, _, _, _, R2, _⟩ := id p
        refine ⟨_, rfl, sc, a, 4, rfl, R2, by decide, by decide, fun v H3 v0 v1 R3 k3 => ⟨rfl, _, rfl, ?_⟩⟩
        by_cases hv : v = 0
        · show if decide (V.int v = V.int 0) = true then _ else _
          rw [if_pos (decide_eq_true (by rw [hv]))]
          exact ⟨_, rfl, p.add aD1 d1 R3 k3 (by have : i < 7 := hi; omega)⟩
        · show if decide (V.int v = V.int 0) = true then _ else _
          rw [if_neg (by rw [decide_eq_false fun z => hv (V.int.inj z)]; exact Bool.false_ne_true)]
          exact p.next aD1 R3 k3
      · obtain ⟨bs, e1, asc1, in1, _, R2, k2⟩ := p
        refine ⟨D1, _, rfl, .inl ⟨SqL.of e1, fun l1 nl1 => ?_⟩⟩
        have sl1 := laid_same (o := .tup (bs.map V.int)) nl1
        have ib : IV K (upd H2 l1 (.tup (bs.map V.int))) (.ref l1) (nD bs) := iv_nums upd_same
        have R3 := R2.same sl1
        have k3 := (k1.trans k2).trans (Same.keep sl1)
        -- stays
        refine ⟨9, rfl, by decide, by decide, fun D2 d2 => ?_⟩
        have aD2 : D2 ≠ a := by
          rintro rfl
          obtain ⟨_, _, _, _, e, _⟩ := R3
          rw [d2] at e
          cases e
        refine lc_range (PvL K (upd H2 l1 (.tup (bs.map V.int))) sc a D2 0) ⟨[], upd_same, List.Pairwise.nil, fun k hk => by simp at hk, Nat.le_refl _, R3.same (laid_same d2), Same.keep (laid_same d2)⟩ (fun i H4 hi p => ⟨rfl, ?_⟩) (fun H4 p => ?_)
        · obtain ⟨_, _, _, _, _, R4, _⟩ := id p
          refine ⟨_, rfl, sc, a, 3, rfl, R4, by decide, by decide, fun v H5 v0 v1 R5 k5 => ⟨rfl, _, rfl, ?_⟩⟩
          by_cases hv : v = 0
          · show if decide (V.int v = V.int 0) = true then _ else _
            rw [if_pos (decide_eq_true (by rw [hv]))]
            exact ⟨_, rfl, p.add aD2 d2 R5 k5 (by have : i < 9 := hi; omega)⟩
          · show if decide (V.int v = V.int 0) = true then _ else _
            rw [if_neg (by rw [decide_eq_false fun z => hv (V.int.inj z)]; exact Bool.false_ne_true)]
            exact p.next aD2 R5 k5
        · obtain ⟨ss, e2, asc2, in2, _, R4, k4⟩ := p
          refine ⟨D2, _, rfl, .inl ⟨SqL.of e2, fun l2 nl2 => ?_⟩⟩
          have sl2 := laid_same (o := .tup (ss.map V.int)) nl2
          have is : IV K (upd H4 l2 (.tup (ss.map V.int))) (.ref l2) (nD ss) := iv_nums upd_same
          have R5 := R4.same sl2
          have k5 := k4.trans (Same.keep (a := a) sl2)
          have ib5 := ib.keep (k5.tk R3.nt)
          -- the answer
          refine ⟨_, rfl, _, rfl, _, rfl, (show 5 ≤ sizeLine by decide), fun q nq => ?_⟩
          have sq := laid_same (o := .lst [.int 2, .int 2, .int 3, .int 4, .int 6]) nq
          have aq : q ≠ a := by
            rintro rfl
            obtain ⟨_, _, _, _, e, _⟩ := R5
            rw [nq] at e
            cases e
          refine ⟨sc, a, q, _, ([2, 2, 3, 4, 6] : List Int).map .num, rfl, R5.same sq, aq, upd_same, nums_ivs (ns := [2, 2, 3, 4, 6]), by decide, by decide, fun d hd v H6 iv R6 k6 => ?_⟩
          obtain ⟨n, hn, rfl⟩ := List.mem_map.mp hd
          cases IV.of_num iv
          refine ⟨(show 3 ≤ sizeLine by decide), fun z nz => ?_⟩
          have sz := laid_same (o := .tup [.ref l1, .ref l2, .int n]) nz
          have k7 := (Same.keep (a := a) sq).trans k6
          refine k ⟨bs, ss, n⟩ _ _ ⟨fun x hx => ?_, fun x hx => ?_, asc1, asc2, ?_, ?_⟩ (iv_rule upd_same ((ib5.keep (k7.tk R5.nt)).keep (Same.tk sz)) ((is.keep (k7.tk R5.nt)).keep (Same.tk sz))) (R6.same sz) (((k3.trans k5).trans k7).trans (Same.keep sz))
          · have := in1 x hx; omega
          · have := in2 x hx; omega
          · simp only [List.mem_cons, List.not_mem_nil, or_false] at hn
            show 2 ≤ n
            omega
          · simp only [List.mem_cons, List.not_mem_nil, or_false] at hn
            show n ≤ 6
            omega
end
end VL

set_option Elab.async false
set_option linter.all false
set_option maxRecDepth 100000
set_option maxHeartbeats 1000000
/-! VMw: _law_some_piece. -/
namespace VL
open PySem L2 PyProof.Rows

theorem E__law_kit : F__law_kit [] = some (.ls (kit.map pcD)) := by
  unfold F__law_kit runG
  rfl
def spPiece (K : PySem.W.Frag) : Sp := fun vs H Q _ => ∃ (sc a : Addr), vs = [.ref a, .int 50] ∧ RowAt K sc H a ∧ ∀ p, Kp p → ∀ (v : V) (H' : Hp), IV K H' v (pcD p) → RowAt K sc H' a → Keep a H H' → Q v H'
theorem iv3 {K : PySem.W.Frag} {H : Hp} {v : V} {b : List Cell} {n : Int} {m : Pl} (h : IV K H v (piD b n m)) : ∃ q vb vm, v = .ref q ∧ SqT K H q [vb, .int n, vm] ∧ IV K H vb (bD b) ∧ IV K H vm (pD m) := by
  obtain ⟨q, xs, rfl, ht, hx⟩ := IV.of_tup h
  cases hx with
  | cons a hx => cases hx with
    | cons b hx => cases hx with
      | cons c hx =>
        cases hx
        cases IV.of_num b
        exact ⟨q, _, _, rfl, ht, a, c⟩
theorem iv2 {K : PySem.W.Frag} {H : Hp} {v : V} {m : Pl} (h : IV K H v (pD m)) : ∃ q, v = .ref q ∧ SqT K H q [.int m.1, .int m.2] := by
  obtain ⟨q, xs, rfl, ht, hx⟩ := IV.of_tup h
  cases hx with
  | cons a hx => cases hx with
    | cons b hx =>
      cases hx
      cases IV.of_num a
      cases IV.of_num b
      exact ⟨q, rfl, ht⟩
theorem at3_0 {a b c : V} : L2.atI [a, b, c] 0 = some a := atI_nat (j := 0) rfl
theorem at3_1 {a b c : V} : L2.atI [a, b, c] 1 = some b := atI_nat (j := 1) rfl
theorem at3_2 {a b c : V} : L2.atI [a, b, c] 2 = some c := atI_nat (j := 2) rfl
theorem at2_0 {a b : V} : L2.atI [a, b] 0 = some a := atI_nat (j := 0) rfl
theorem at2_1 {a b : V} : L2.atI [a, b] 1 = some b := atI_nat (j := 1) rfl
theorem sqt_tk {K : PySem.W.Frag} {H H' : Hp} {q : Addr} {xs : List V} (k : TKeep K H H') (h : SqT K H q xs) : SqT K H' q xs := k q xs h
section
variable {P : Program} {w : World} {K : PySem.W.Frag} {mg : Str → Option Value} {base : Heap}
theorem d__law_some_piece (C : Cs K mg) : DS P w K mg base 3 "_law_some_piece" ["_law_row", "_law_far"] (spPiece K) := by
  obtain ⟨f, fd, hm, F, b⟩ := C.t__law_some_piece.ex
  refine ⟨f, fd, hm, F.kp, b, F.ok sc__law_some_piece (fun vs H Q E h => ?_) (fun cdv A outer s H vs Q E hr h => ?_)⟩
  · obtain ⟨sc, a, rfl, _⟩ := h
    rfl
  · obtain ⟨sc, a, rfl, R, k⟩ := h
    refine ⟨_, pss_cons (ps_par (i := 2) (j := 3) rfl sc__law_some_piece.nd rfl rfl (by decide) rfl rfl
        (pa_cons (pe_callDS (d__law_turned_piece C) (hr.mono (by decide)) rfl (pa_cons (pe_callDS (d__law_pick C) (hr.mono (by decide)) rfl (pa_cons (pv 0) (pa_cons (ev_call0 (d__law_kit C) (hr.mono (by decide)) rfl) pa_nil))) (pa_cons (pe_callDS (d__law_taken C) (hr.mono (by decide)) rfl (pa_cons (pv 0) (pa_cons pe_int pa_nil))) pa_nil)))
        (pa_cons (pe_callDS (d__law_pick C) (hr.mono (by decide)) rfl (pa_cons (pv 0) (pa_cons (pe_lst (pa_cons pe_int (pa_cons pe_int (pa_cons pe_int (pa_cons pe_int pa_nil))))) pa_nil))) pa_nil)) (by rfl))
      (pss_cons (ps_set (i := 4) sc__law_some_piece.nd rfl (.inl rfl) (pe_callDS (d__law_moved C) (hr.mono (by decide)) rfl (pa_cons (pe_ix ix_tup (pv 2) pe_int (fun _ _ => rfl)) (pa_cons (pe_callDS (d__law_signed C) (hr.mono (by decide)) rfl (pa_cons (pv 0) (pa_cons (pv 1) pa_nil))) (pa_cons (pe_callDS (d__law_signed C) (hr.mono (by decide)) rfl (pa_cons (pv 0) (pa_cons (pv 1) pa_nil))) pa_nil)))))
      (pss_one (ps_ret (pe_tup (pa_cons (pv 4) (pa_cons (pe_op op_mul (pe_ix ix_tup (pv 2) pe_int (fun _ _ => rfl)) (pv 3)) (pa_cons (pe_tup (pa_cons (pe_op op_mul (pe_ix ix_tup (pe_ix ix_tup (pv 2) pe_int (fun _ _ => rfl)) pe_int (fun _ _ => rfl)) (pv 3)) (pa_cons (pe_op op_mul (pe_ix ix_tup (pe_ix ix_tup (pv 2) pe_int (fun _ _ => rfl)) pe_int (fun _ _ => rfl)) (pv 3)) pa_nil))) pa_nil))))))), ?_⟩
    -- the kit, a piece of it
    refine ⟨_, rfl, _, _, shNone _, show fCallD F__law_kit fNil _ = some (.ls (kit.map pcD)) from E__law_kit, fun v H1 s1 u1 fr => ?_⟩
    obtain ⟨kk, xs, rfl, hk, ivs⟩ := u1
    have nk : kk ≠ a := by
      rcases fr rfl with ⟨b, e, hb⟩ | ⟨j, hj, _⟩
      · cases e
        rintro rfl
        obtain ⟨_, _, _, _, e, _⟩ := R
        rw [hb] at e
        cases e
      · simp at hj
    refine ⟨sc, a, kk, xs, _, rfl, R.same s1, nk, hk, ivs, by decide, by decide, fun d hd v2 H2 iv R2 k2 => ?_⟩
    obtain ⟨p, hp, rfl⟩ := List.mem_map.mp hd
    refine ⟨_, rfl, sc, a, 8, rfl, R2, by decide, by decide, fun t H3 t0 t1 R3 k3 => ?_⟩
    obtain ⟨t, rfl⟩ := Int.eq_ofNat_of_zero_le t0
    have ht : t < 8 := by omega
    have kl := (kit_its p hp)
    have plen : p.1.length ≤ 25 := inb_len (n := 5) kl.1 kl.2.2.2.2.1
    refine ⟨[.im (pcD p), .im (.num (t : Int))], _, rfl, .cons (iv.keep (k3.tk R2.nt)) (.cons IV.num .nil), rfl, E__law_turned_piece (by omega) _ _ ht, fun v4 H4 s4 iv4 _ => ?_⟩
    -- how many rounds
    refine ⟨_, rfl, (show 4 ≤ sizeLine by decide), fun q nq => ?_⟩
    have sq := laid_same (o := .lst [.int 1, .int 1, .int 1, .int 2]) nq
    have R4 := R3.same s4
    have nqa : q ≠ a := by
      rintro rfl
      obtain ⟨_, _, _, _, e, _⟩ := R4
      rw [nq] at e
      cases e
    refine ⟨sc, a, q, _, ([1, 1, 1, 2] : List Int).map .num, rfl, R4.same sq, nqa, upd_same, nums_ivs (ns := [1, 1, 1, 2]), by decide, by decide, fun d5 hd5 v5 H5 iv5 R5 k5 => ?_⟩
    obtain ⟨n, hn, rfl⟩ := List.mem_map.mp hd5
    cases IV.of_num iv5
    have iv4 : IV K H4 v4 (piD (turn t p.1) (p.2.1 : Int) (turnP t p.2.2)) := iv4
    have iv4' := (iv4.keep (Same.tk sq)).keep (k5.tk (R4.same sq).nt)
    obtain ⟨q4, vb, vm, rfl, st4, ivb, ivm⟩ := iv3 iv4'
    obtain ⟨qm, rfl, stm⟩ := iv2 ivm
    refine ⟨_, _, rfl, ?_⟩
    -- board
    refine ⟨_, rfl, q4, _, 0, _, rfl, rfl, st4, at3_0, _, rfl, _, rfl, sc, a, 50, rfl, R5, by decide, by decide, fun dx H6 x0 x1 R6 k6 => ?_⟩
    refine ⟨_, rfl, _, rfl, sc, a, 50, rfl, R6, by decide, by decide, fun dy H7 y0 y1 R7 k7 => ?_⟩
    have k67 := k6.trans k7
    have tk67 := k67.tk (K := K) R5.nt
    have tl : (turn t p.1).length ≤ 25 := by rw [turn_len]; exact plen
    refine ⟨[.im (bD (turn t p.1)), .im (.num dx), .im (.num dy)], _, rfl, .cons (ivb.keep tk67) (.cons IV.num (.cons IV.num .nil)), rfl, E__law_moved (turn t p.1) (dx, dy) (by omega), fun v8 H8 s8 iv8 _ => ?_⟩
    -- the answer
    have tk8 : TKeep K H5 H8 := fun b xs h => Same.tk s8 b xs (tk67 b xs h)
    have hn : n = 1 ∨ n = 2 := by
      simp only [List.mem_cons, List.not_mem_nil, or_false] at hn
      omega
    have g : ∀ z : Int, (-(2 ^ 64) < z ∧ z < 2 ^ 64) ∨ (-(2 ^ 64) < n ∧ n < 2 ^ 64) := fun z => by
      right
      rcases hn with rfl | rfl <;> decide
    have st8 := sqt_tk tk8 st4
    have sm8 := sqt_tk tk8 stm
    refine ⟨_, rfl, _, rfl, q4, _, 1, _, rfl, rfl, st8, at3_1, _, rfl, _, _, rfl, rfl, g _, _, rfl, q4, _, 2, _, rfl, rfl, st8, at3_2, qm, _, 0, _, rfl, rfl, sm8, at2_0, _, rfl, _, _, rfl, rfl, g _, _, rfl, q4, _, 2, _, rfl, rfl, st8, at3_2, qm, _, 1, _, rfl, rfl, sm8, at2_1, _, rfl, _, _, rfl, rfl, g _, (show 2 ≤ sizeLine by decide), fun p1 n1 => ⟨(show 3 ≤ sizeLine by decide), fun p2 n2 => ?_⟩⟩
    have s9 := laid_same (o := .tup [.int ((turnP t p.2.2).1 * n), .int ((turnP t p.2.2).2 * n)]) n1
    have s10 := laid_same (o := .tup [v8, .int ((p.2.1 : Int) * n), .ref p1]) n2
    have i9 : IV K (upd H8 p1 (.tup [.int ((turnP t p.2.2).1 * n), .int ((turnP t p.2.2).2 * n)])) (.ref p1) (pD ((turnP t p.2.2).1 * n, (turnP t p.2.2).2 * n)) := iv_nums (ns := [(turnP t p.2.2).1 * n, (turnP t p.2.2).2 * n]) upd_same
    have iv8 : IV K H8 v8 (bD (shift (dx, dy) (turn t p.1))) := iv8
    have keepAll : Keep a H _ := ((((((((Same.keep (a := a) s1).trans k2).trans k3).trans (Same.keep s4)).trans (Same.keep sq)).trans k5).trans k67).trans (Same.keep s8)).trans ((Same.keep s9).trans (Same.keep s10))
    obtain ⟨qq, hq, rfl⟩ : ∃ qq : Nat, (qq = 1 ∨ qq = 2) ∧ n = (qq : Int) := by
      rcases hn with rfl | rfl
      · exact ⟨1, .inl rfl, rfl⟩
      · exact ⟨2, .inr rfl, rfl⟩
    refine k (made p t qq (dx, dy)) (kit_kp hp hq (by show -50 ≤ dx ∧ dx ≤ 50 ∧ -50 ≤ dy ∧ dy ≤ 50; omega)) _ _ ?_ (((R7.same s8).same s9).same s10) keepAll
    have e : pcD (made p t qq (dx, dy)) = .tup [bD (shift (dx, dy) (turn t p.1)), .num ((p.2.1 : Int) * (qq : Int)), pD ((turnP t p.2.2).1 * (qq : Int), (turnP t p.2.2).2 * (qq : Int))] := by
      show NestedKey.tup [bD (shift (dx, dy) (turn t p.1)), .num ((p.2.1 * qq : Nat) : Int), pD ((turnP t p.2.2).1 * (qq : Int), (turnP t p.2.2).2 * (qq : Int))] = _
      rw [Int.natCast_mul]
    rw [e]
    refine IV.tup (SqT.of upd_same) (.cons ((iv8.keep (Same.tk s9)).keep (Same.tk s10)) (.cons IV.num (.cons (i9.keep (Same.tk s10)) .nil))) (depthAll_le fun d hd => ?_)
    simp only [List.mem_cons, List.not_mem_nil, or_false] at hd
    have d1 := depth_bD (shift (dx, dy) (turn t p.1))
    have d2 := depth_pD ((turnP t p.2.2).1 * (qq : Int), (turnP t p.2.2).2 * (qq : Int))
    rcases hd with rfl | rfl | rfl
    · omega
    · simp [NestedKey.depth]
    · omega
end
end VL

set_option Elab.async false
set_option linter.all false
set_option maxRecDepth 100000
set_option maxHeartbeats 1000000
/-! printed by gen.py: the walks of the plain defs. -/
namespace VL
open PySem L2 PyProof.Rows
section
variable {P : Program} {w : World} {K : PySem.W.Frag} {mg : Str → Option Value} {base : Heap}

/-! _law_alike, by levels -/
def g__law_alike (F : List U → Option U) : Sh → Option Res := (fSeq (fIfS (fB (f1 (isiTU "tuple" "list") (fVar 1))) (fSeq (fIfS (fOr (fNot (fB (f1 (isiTU "tuple" "list") (fVar 0)))) (fB (f2 neU (f1 (isiU "list") (fVar 0)) (f1 (isiU "list") (fVar 1))))) (fRet [] [] (fC (.bl false))) fNext)
    (fSeq (fIfS (fB (f2 neU (fCall lenU (fCons (fVar 0) fNil)) (fCall lenU (fCons (fVar 1) fNil)))) (fRet [] [] (fC (.bl false))) fNext)
    (fRet [] [] (f2 eqU (fLc (fRng1 (fCons (fCall lenU (fCons (fVar 1) fNil)) fNil)) (bName 2) (fNot (fB (fCallD F (fCons (f2 ixU (fVar 0) (fVar 2)) (fCons (f2 ixU (fVar 1) (fVar 2)) fNil))))) (fVar 2) [2]) (fLst fNil))))) fNext)
    (fSeq (fIfS (fOr (fB (f1 isNU (fVar 1))) (fB (f1 (isiU "str") (fVar 1)))) (fRet [] [] (fU (fAnd (fB (f2 eqU (fVar 0) (fVar 1))) (fB (f2 eqU (f1 (isiU "str") (fVar 0)) (f1 (isiU "str") (fVar 1))))))) fNext)
    (fRet [] [] (fU (fAnd (fB (f1 (isiU "int") (fVar 0))) (fB (fU (fAnd (fB (f2 eqU (f1 (isiU "bool") (fVar 0)) (f1 (isiU "bool") (fVar 1)))) (fB (f2 eqU (fVar 0) (fVar 1)))))))))))
theorem d_alike0 (C : Cs K mg) : DV P w K mg base 0 "_law_alike" ["_law_found", "_law_due"] (fun _ => none) := by
  obtain ⟨f, fd, hm, Fn, b⟩ := C.t__law_alike.ex
  refine ⟨f, fd, hm, Fn.kp, b, ⟨fun vs H Q E h => ?_, fun A outer s H args us vs Q E _ _ _ _ h => ?_⟩⟩
  · obtain ⟨_, _, _, _, _, h, _⟩ := h
    cases h
  · obtain ⟨_, _, _, _, _, h, _⟩ := h
    cases h
theorem d_alike1 (C : Cs K mg) {k : Nat} {F : List U → Option U} (IH : DV P w K mg base k "_law_alike" ["_law_found", "_law_due"] F) : DV P w K mg base (k + 1) "_law_alike" ["_law_found", "_law_due"] (runG 3 (g__law_alike F)) := dv_of (O := []) C.t__law_alike sc__law_alike (by decide) fun f cdv A outer s H E hr => by
  have hu := hr.units
  exact (svs_cons (sv_if (tv_val (ev_isiT rfl C.b_isinstance (ev_var 1 (pv 1)) rfl C.b_tuple (tn := "tuple") (by decide +kernel) rfl C.b_list (un := "list") (by decide +kernel))) (svs_cons (sv_if (TW.tv (tw_or (tv_not (tv_val (ev_isiT rfl C.b_isinstance (ev_var 0 (pv 0)) rfl C.b_tuple (tn := "tuple") (by decide +kernel) rfl C.b_list (un := "list") (by decide +kernel)))) (tw_or1 (tv_cmp (ov_ne hu) (ev_isi rfl C.b_isinstance (ev_var 0 (pv 0)) rfl C.b_list (T := "") (tn := "list") (by decide +kernel)) (ev_isi rfl C.b_isinstance (ev_var 1 (pv 1)) rfl C.b_list (T := "") (tn := "list") (by decide +kernel)) (nomark _))))) (svs_one (sv_ret ev_bl)) svs_nil)
    (svs_cons (sv_if (tv_cmp (ov_ne hu) (ev_callB ca_len rfl C.b_len (by decide +kernel) (av_cons (ev_var 0 (pv 0)) av_nil)) (ev_callB ca_len rfl C.b_len (by decide +kernel) (av_cons (ev_var 1 (pv 1)) av_nil)) (nomark _)) (svs_one (sv_ret ev_bl)) svs_nil)
    (svs_one (sv_ret (ev_cmp (ov_eq hu) (ev_lcW rfl sc__law_alike.nd (iv_rng1 rfl C.b_range (av_cons (ev_callB ca_len rfl C.b_len (by decide +kernel) (av_cons (ev_var 1 (pv 1)) av_nil)) av_nil)) (blkOk_by (N := n__law_alike) (sc := defScope st__law_alike) (own := [("_law_k", 2)]) (by decide +kernel)) (fun _ _ _ _ _ => (gv_name 2 sc__law_alike.nd rfl (.inl rfl))) (fun _ _ _ _ _ => (tsv_one (tv_not (tv_val (ev_call IH hr rfl (av_cons (ev_ix hu (ev_var 0 (pv 0)) (ev_var 2 (pv 2))) (av_cons (ev_ix hu (ev_var 1 (pv 1)) (ev_var 2 (pv 2))) av_nil)) len2))))) (fun _ _ _ _ _ => (ev_var 2 (pv 2))) (by decide)) (ev_lst av_nil) (nomark _)))))) svs_nil)
    (svs_cons (sv_if (TW.tv (tw_or (tv_isN (ev_var 1 (pv 1))) (tw_or1 (tv_val (ev_isi rfl C.b_isinstance (ev_var 1 (pv 1)) rfl C.b_str (T := "") (tn := "str") (by decide +kernel)))))) (svs_one (sv_ret (ev_and (ev_cmp (ov_eq hu) (ev_var 0 (pv 0)) (ev_var 1 (pv 1)) (nomark _)) (ev_one (ev_cmp (ov_eq hu) (ev_isi rfl C.b_isinstance (ev_var 0 (pv 0)) rfl C.b_str (T := "") (tn := "str") (by decide +kernel)) (ev_isi rfl C.b_isinstance (ev_var 1 (pv 1)) rfl C.b_str (T := "") (tn := "str") (by decide +kernel)) (nomark _)))))) svs_nil)
    (svs_one (sv_ret (ev_and (ev_isi rfl C.b_isinstance (ev_var 0 (pv 0)) rfl C.b_int (T := "") (tn := "int") (by decide +kernel)) (ev_and (ev_cmp (ov_eq hu) (ev_isi rfl C.b_isinstance (ev_var 0 (pv 0)) rfl C.b_bool (T := "") (tn := "bool") (by decide +kernel)) (ev_isi rfl C.b_isinstance (ev_var 1 (pv 1)) rfl C.b_bool (T := "") (tn := "bool") (by decide +kernel)) (nomark _)) (ev_one (ev_cmp (ov_eq hu) (ev_var 0 (pv 0)) (ev_var 1 (pv 1)) (nomark _)))))))))
end
end VL

set_option Elab.async false
set_option linter.all false
set_option maxRecDepth 100000
set_option maxHeartbeats 1000000
/-! VMy: _law_alike of a datum and itself. -/
namespace VL
open PySem L2 PyProof.Rows

inductive NT : Nat → D → Prop where
  | num {n : Nat} {i : Int} : NT (n + 1) (.num i)
  | tup {n : Nat} {ds : List D} : ds.length ≤ 10000 → (∀ d ∈ ds, NT n d) → NT (n + 1) (.tup ds)
def Fa : Nat → List U → Option U
  | 0 => fun _ => none
  | n + 1 => runG 3 (g__law_alike (Fa n))
theorem isN_num (i : Int) : isNU (.im (.num i)) = some (.bl false) := rfl
theorem Fa_succ (n : Nat) : Fa (n + 1) = runG 3 (g__law_alike (Fa n)) := rfl
theorem alike_num (F : List U → Option U) (i : Int) : runG 3 (g__law_alike F) [.im (.num i), .im (.num i)] = some (.bl true) := by
  have q : g__law_alike F [some (.im (.num i)), some (.im (.num i)), none] = some (.rt (.bl true)) := by
    simp only [g__law_alike, fRet, fU, fAnd, fOr, fB, f1, f2, f3, fSeq, fNext, fIfS, fIf, fC, fSet, fDrop, fItems, itemsU_b, itemsU_ls, itemsU_tup, fTup, fLst, fCons, fConsF, fNil, fCall, fCallD, fNot, fChain, fUnp, fPar, setAllU, fVar_0, fVar_s, Option.bind_some, Option.bind_none, Option.map_some, isB_bl, eqU_im, eqU_ls, eqU_bb, neU_im, neU_ls, neU_bl, ltU_num, gtU_num, leU_num, geU_num, addU_num, subU_num, negU_num, isN_tup, isN_none, notN_tup, notN_none, ims_nil, ims_im, okAl_im, okAl_bl, okAl_nil, okRt_im, okRt_bl, okRt_nil, mut_im, mut_bl, mut_ls, mut_dc, lenU_tup, lenU_ls, tupU_tup, listU_tup, listU_ls, intU_num, ixU_tup, ixU_ls, ixU_dc, cutU_c, ixc0, ixc1, ixc2, ixp0, ixp1, mkTup_2, mkTup_3, mkTup_nil, mkLst_nil, okArgs_im, okArgs_nil, atI_0, atI_1, atI_2, isi_num_int, isi_num_bool, isi_tup_tuple, isi_num_tuple, wipeU, List.set_cons_zero, List.set_cons_succ, List.length_cons, List.length_nil, List.map_cons, List.map_nil, if_true, if_false, if_pos, Bool.false_eq_true, Bool.not_true, Bool.not_false, Bool.true_or, Bool.false_or, List.isEmpty_nil, List.isEmpty_cons, Option.map_none, isiT_num, isN_num, isi_num_str, decide_true, beq_self_eq_true]
  unfold runG
  show ((g__law_alike F) [some (.im (.num i)), some (.im (.num i)), none]).bind _ = _
  rw [q]
  rfl
theorem alike_gen {lcf : Sh → Option U} {ds : List D} (h : lcf [some (.im (.tup ds)), some (.im (.tup ds)), none] = some (.ls [])) : (fSeq (fIfS (fB (f1 (isiTU "tuple" "list") (fVar 1))) (fSeq (fIfS (fOr (fNot (fB (f1 (isiTU "tuple" "list") (fVar 0)))) (fB (f2 neU (f1 (isiU "list") (fVar 0)) (f1 (isiU "list") (fVar 1))))) (fRet [] [] (fC (.bl false))) fNext)
    (fSeq (fIfS (fB (f2 neU (fCall lenU (fCons (fVar 0) fNil)) (fCall lenU (fCons (fVar 1) fNil)))) (fRet [] [] (fC (.bl false))) fNext)
    (fRet [] [] (f2 eqU lcf (fLst fNil))))) fNext)
    (fSeq (fIfS (fOr (fB (f1 isNU (fVar 1))) (fB (f1 (isiU "str") (fVar 1)))) (fRet [] [] (fU (fAnd (fB (f2 eqU (fVar 0) (fVar 1))) (fB (f2 eqU (f1 (isiU "str") (fVar 0)) (f1 (isiU "str") (fVar 1))))))) fNext)
    (fRet [] [] (fU (fAnd (fB (f1 (isiU "int") (fVar 0))) (fB (fU (fAnd (fB (f2 eqU (f1 (isiU "bool") (fVar 0)) (f1 (isiU "bool") (fVar 1)))) (fB (f2 eqU (fVar 0) (fVar 1))))))))))) [some (.im (.tup ds)), some (.im (.tup ds)), none] = some (.rt (.bl true)) := by
  simp only [fRet, fU, fAnd, fOr, fB, f1, f2, f3, fSeq, fNext, fIfS, fIf, fC, fSet, fDrop, fItems, itemsU_b, itemsU_ls, itemsU_tup, fTup, fLst, fCons, fConsF, fNil, fCall, fCallD, fNot, fChain, fUnp, fPar, setAllU, fVar_0, fVar_s, Option.bind_some, Option.bind_none, Option.map_some, isB_bl, eqU_im, eqU_ls, eqU_bb, neU_im, neU_ls, neU_bl, ltU_num, gtU_num, leU_num, geU_num, addU_num, subU_num, negU_num, isN_tup, isN_none, notN_tup, notN_none, ims_nil, ims_im, okAl_im, okAl_bl, okAl_nil, okRt_im, okRt_bl, okRt_nil, mut_im, mut_bl, mut_ls, mut_dc, lenU_tup, lenU_ls, tupU_tup, listU_tup, listU_ls, intU_num, ixU_tup, ixU_ls, ixU_dc, cutU_c, ixc0, ixc1, ixc2, ixp0, ixp1, mkTup_2, mkTup_3, mkTup_nil, mkLst_nil, okArgs_im, okArgs_nil, atI_0, atI_1, atI_2, isi_num_int, isi_num_bool, isi_tup_tuple, isi_num_tuple, wipeU, List.set_cons_zero, List.set_cons_succ, List.length_cons, List.length_nil, List.map_cons, List.map_nil, if_true, if_false, if_pos, Bool.false_eq_true, Bool.not_true, Bool.not_false, Bool.true_or, Bool.false_or, List.isEmpty_nil, List.isEmpty_cons, Option.map_none, isiT_tup, isi_tup_list, beq_self_eq_true, num_dec, decide_true, h]
theorem alike_tup (F : List U → Option U) {ds : List D} (hl : ds.length ≤ 10000) (ih : ∀ d ∈ ds, F [.im d, .im d] = some (.bl true)) : runG 3 (g__law_alike F) [.im (.tup ds), .im (.tup ds)] = some (.bl true) := by
  have hlc : fLc (fRng1 (fCons (fCall lenU (fCons (fVar 1) fNil)) fNil)) (bName 2) (fNot (fB (fCallD F (fCons (f2 ixU (fVar 0) (fVar 2)) (fCons (f2 ixU (fVar 1) (fVar 2)) fNil))))) (fVar 2) [2] [some (.im (.tup ds)), some (.im (.tup ds)), none] = some (.ls []) := by
    unfold fLc
    rw [rng1_ev (k := ds.length) (by omega) (by simp only [fRet, fU, fAnd, fOr, fB, f1, f2, f3, fSeq, fNext, fIfS, fIf, fC, fSet, fDrop, fItems, itemsU_b, itemsU_ls, itemsU_tup, fTup, fLst, fCons, fConsF, fNil, fCall, fCallD, fNot, fChain, fUnp, fPar, setAllU, fVar_0, fVar_s, Option.bind_some, Option.bind_none, Option.map_some, isB_bl, eqU_im, eqU_ls, eqU_bb, neU_im, neU_ls, neU_bl, ltU_num, gtU_num, leU_num, geU_num, addU_num, subU_num, negU_num, isN_tup, isN_none, notN_tup, notN_none, ims_nil, ims_im, okAl_im, okAl_bl, okAl_nil, okRt_im, okRt_bl, okRt_nil, mut_im, mut_bl, mut_ls, mut_dc, lenU_tup, lenU_ls, tupU_tup, listU_tup, listU_ls, intU_num, ixU_tup, ixU_ls, ixU_dc, cutU_c, ixc0, ixc1, ixc2, ixp0, ixp1, mkTup_2, mkTup_3, mkTup_nil, mkLst_nil, okArgs_im, okArgs_nil, atI_0, atI_1, atI_2, isi_num_int, isi_num_bool, isi_tup_tuple, isi_num_tuple, wipeU, List.set_cons_zero, List.set_cons_succ, List.length_cons, List.length_nil, List.map_cons, List.map_nil, if_true, if_false, if_pos, Bool.false_eq_true, Bool.not_true, Bool.not_false, Bool.true_or, Bool.false_or, List.isEmpty_nil, List.isEmpty_cons, Option.map_none]), Option.bind_some]
    unfold rngD
    rw [if_pos (lt_size (by rw [List.length_map, List.length_range]; omega))]
    have e := lcGo_map (b := bName 2) (ft := fNot (fB (fCallD F (fCons (f2 ixU (fVar 0) (fVar 2)) (fCons (f2 ixU (fVar 1) (fVar 2)) fNil))))) (fe := fVar 2) (τ := wipeU [some (.im (.tup ds)), some (.im (.tup ds)), none] [2]) (fun (k : Nat) => NestedKey.num (0 + (k : Int))) (fun _ => false) (fun _ => .none) (List.range ds.length) (fun k hk => ⟨_, rfl, by
      have hk := List.mem_range.mp hk
      have e0 : (0 : Int) + (k : Int) = (k : Int) := by omega
      have ea : ixU (.im (.tup ds)) (.im (.num (k : Int))) = some (.im ds[k]) := by rw [ixU_tup, atI_nat (List.getElem?_eq_getElem hk)]; rfl
      have ei := ih ds[k] (List.getElem_mem hk)
      show fNot (fB (fCallD F (fCons (f2 ixU (fVar 0) (fVar 2)) (fCons (f2 ixU (fVar 1) (fVar 2)) fNil)))) [some (.im (.tup ds)), some (.im (.tup ds)), some (.im (.num (0 + (k : Int))))] = _
      rw [e0]
      simp only [fNot, fB, fCallD, fCons, fNil, f2, fVar_0, fVar_s, Option.bind_some, ea, okArgs_im, okArgs_nil, if_true, ei, isB_bl, Option.map_some, Bool.not_true], fun z => by cases z⟩)
    have e2 : ((List.range ds.length).filter fun _ => false) = [] := List.filter_eq_nil_iff.mpr fun _ _ => Bool.false_ne_true
    rw [e2] at e
    rw [e]
    rfl
  have q : g__law_alike F [some (.im (.tup ds)), some (.im (.tup ds)), none] = some (.rt (.bl true)) := alike_gen hlc
  unfold runG
  show ((g__law_alike F) [some (.im (.tup ds)), some (.im (.tup ds)), none]).bind _ = _
  rw [q]
  rfl
theorem alike_ev {n : Nat} {d : D} (h : NT n d) : Fa n [.im d, .im d] = some (.bl true) := by
  induction h with
  | num => rw [Fa_succ]; exact alike_num _ _
  | tup hl _ ih => rw [Fa_succ]; exact alike_tup _ hl ih
section
variable {P : Program} {w : World} {K : PySem.W.Frag} {mg : Str → Option Value} {base : Heap}
theorem d_alike (C : Cs K mg) : ∀ n : Nat, DV P w K mg base n "_law_alike" ["_law_found", "_law_due"] (Fa n)
  | 0 => d_alike0 C
  | n + 1 => d_alike1 C (d_alike C n)
end
end VL

set_option Elab.async false
set_option linter.all false
set_option maxRecDepth 100000
set_option maxHeartbeats 1000000
/-! printed by gen.py: the walks of the plain defs. -/
namespace VL
open PySem L2 PyProof.Rows
section
variable {P : Program} {w : World} {K : PySem.W.Frag} {mg : Str → Option Value} {base : Heap}

def gL3 : Sh → Option Res := (fPar [6, 7] (fConsF [] (fLst fNil) (fConsF [] (fC (.dc [])) fNil)))
theorem dL3 (C : Cs K mg) (f : Addr) (cdv : Value) (A : Around) (outer : List Env) (s : Shared) (H : Hp) (E : XK) (hr : Room 8 (A.deeper (envOfC "law" (defScope st_law) s.heap.objs.size f cdv))) : SV (cxOf CX0 P w K mg base n_law "law" (defScope st_law) f cdv A outer s H E).nox [6, 7, 14, 16, 19] ((defBody st_law).getD 3 (.Pass ⟨0, 0, 0, 0⟩)) gL3 := by
  have hu := hr.units
  exact (sv_par (i := 6) (j := 7) rfl sc_law.nd rfl rfl (by decide) rfl rfl (fv_cons (ev_lst av_nil) (fv_cons ev_dnew fv_nil)) (by rfl))

def gL4 : Sh → Option Res := (fFor (fItems (fCallD F__law_box_boards (fCons (fVar 4) (fCons (fVar 5) fNil)))) (bName 8) (fSeq (fPar [9, 10, 11, 12] (fConsF [8] (fVar 8) (fConsF [] (fC (.im .none)) (fConsF [] (f2 ixU (fCallD F__law_normal (fCons (fVar 8) fNil)) (fC (.im (.num 0)))) (fConsF [] (fLst fNil) fNil)))))
    (fSeq (fFor (fRng2 (fCons (fC (.im (.num 1))) (fCons (f2 addU (fVar 3) (fC (.im (.num 1)))) fNil))) (bName 13) (fSeq (fSet 12 [] (f2 addU (fVar 12) (fLst (fCons (fVar 9) fNil))))
    (fSeq (fSet 9 ([] ++ []) (fIf (fB (f2 ltU (fCall lenU (fCons (fVar 9) fNil)) (fC (.im (.num 60))))) (fCallD F__law_step (fCons (fVar 2) (fCons (fVar 9) fNil))) (fTup fNil)))
    (fIfS (fAnd (fB (f1 isNU (fVar 10))) (fB (f2 eqU (f2 ixU (fCallD F__law_normal (fCons (fVar 9) fNil)) (fC (.im (.num 0)))) (fVar 11)))) (fSet 10 [] (fTup (fCons (fVar 13) (fCons (f2 ixU (fCallD F__law_normal (fCons (fVar 9) fNil)) (fC (.im (.num 1)))) fNil)))) fNext))))
    (fSeq (fIfS (fB (f2 eqU (fVar 10) (fTup (fCons (fC (.im (.num 1))) (fCons (fTup (fCons (fC (.im (.num 0))) (fCons (fC (.im (.num 0))) fNil))) fNil))))) (fApp 6 (fVar 8)) fNext)
    (fIfS (fB (f1 notNU (fVar 10))) (fSeq (fSet 14 [] (fLst fNil))
    (fSeq (fFor (fItems (f2 cutU (fVar 12) (f2 ixU (fVar 10) (fC (.im (.num 0)))))) (bName 15) (fFor (fRng1 (fCons (fC (.im (.num 8))) fNil)) (bName 13) (fApp 14 (f2 ixU (fCallD F__law_normal (fCons (f2 ixU (fCallD F__law_turned_piece (fCons (fTup (fCons (fVar 15) (fCons (fC (.im (.num 1))) (fCons (fTup (fCons (fC (.im (.num 0))) (fCons (fC (.im (.num 0))) fNil))) fNil)))) (fCons (fVar 13) fNil))) (fC (.im (.num 0)))) fNil)) (fC (.im (.num 0)))))))
    (fSto 7 (fVar 10) (fCall minU (fCons (fVar 14) fNil))))) fNext)))))
theorem dL4 (C : Cs K mg) (f : Addr) (cdv : Value) (A : Around) (outer : List Env) (s : Shared) (H : Hp) (E : XK) (hr : Room 8 (A.deeper (envOfC "law" (defScope st_law) s.heap.objs.size f cdv))) : SV (cxOf CX0 P w K mg base n_law "law" (defScope st_law) f cdv A outer s H E).nox [6, 7, 14, 16, 19] ((defBody st_law).getD 4 (.Pass ⟨0, 0, 0, 0⟩)) gL4 := by
  have hu := hr.units
  exact (sv_for PassesOwn.never rfl (iv_seq (ev_call (d__law_box_boards C) (hr.mono (by decide)) rfl (av_cons (ev_var 4 (pv 4)) (av_cons (ev_var 5 (pv 5)) av_nil)) len2)) (gv_name 8 sc_law.nd rfl (.inl rfl)) (svs_cons (sv_asgT rfl (tgs_cons (i := 9) sc_law.nd rfl (.inl rfl) (tgs_cons (i := 10) sc_law.nd rfl (.inl rfl) (tgs_cons (i := 11) sc_law.nd rfl (.inl rfl) (tgs_cons (i := 12) sc_law.nd rfl (.inl rfl) tgs_nil)))) (fv_cons (ev_var 8 (pv 8)) (fv_cons ev_non (fv_cons (ev_ix hu (ev_call (d__law_normal C) (hr.mono (by decide)) rfl (av_cons (ev_var 8 (pv 8)) av_nil) len1) ev_int) (fv_cons (ev_lst av_nil) fv_nil)))))
    (svs_cons (sv_for PassesOwn.never rfl (iv_rng2 rfl C.b_range (av_cons ev_int (av_cons (ev_op ov_add (ev_var 3 (pv 3)) ev_int) av_nil))) (gv_name 13 sc_law.nd rfl (.inl rfl)) (svs_cons (sv_set 12 sc_law.nd rfl (.inl rfl) (ev_op ov_add (ev_var 12 (pv 12)) (ev_lst (av_cons (ev_var 9 (pv 9)) av_nil))))
    (svs_cons (sv_set 9 sc_law.nd rfl (.inl rfl) (ev_if (tv_cmp (ov_lt hu) (ev_callB ca_len rfl C.b_len (by decide +kernel) (av_cons (ev_var 9 (pv 9)) av_nil)) ev_int (nomark _)) (ev_call (d__law_step C) (hr.mono (by decide)) rfl (av_cons (ev_var 2 (pv 2)) (av_cons (ev_var 9 (pv 9)) av_nil)) len2) (ev_tup av_nil)))
    (svs_one (sv_if (TW.tv (tw_and (tv_isN (ev_var 10 (pv 10))) (tw_and1 (tv_cmp (ov_eq hu) (ev_ix hu (ev_call (d__law_normal C) (hr.mono (by decide)) rfl (av_cons (ev_var 9 (pv 9)) av_nil) len1) ev_int) (ev_var 11 (pv 11)) (nomark _))))) (svs_one (sv_set 10 sc_law.nd rfl (.inl rfl) (ev_tup (av_cons (ev_var 13 (pv 13)) (av_cons (ev_ix hu (ev_call (d__law_normal C) (hr.mono (by decide)) rfl (av_cons (ev_var 9 (pv 9)) av_nil) len1) ev_int) av_nil))))) svs_nil)))) (by decide))
    (svs_cons (sv_if (tv_cmp (ov_eq hu) (ev_var 10 (pv 10)) (ev_tup (av_cons ev_int (av_cons (ev_tup (av_cons ev_int (av_cons ev_int av_nil))) av_nil))) (nomark _)) (svs_one (sv_app (i := 6) (by decide) (pv 6) (ev_var 8 (pv 8)))) svs_nil)
    (svs_one (sv_if (tv_notN (ev_var 10 (pv 10))) (svs_cons (sv_set 14 sc_law.nd rfl (.inl rfl) (ev_lst av_nil))
    (svs_cons (sv_for PassesOwn.never rfl (iv_seq (ev_cut (ev_var 12 (pv 12)) (ev_ix hu (ev_var 10 (pv 10)) ev_int))) (gv_name 15 sc_law.nd rfl (.inl rfl)) (svs_one (sv_for PassesOwn.never rfl (iv_rng1 rfl C.b_range (av_cons ev_int av_nil)) (gv_name 13 sc_law.nd rfl (.inl rfl)) (svs_one (sv_app (i := 14) (by decide) (pv 14) (ev_ix hu (ev_call (d__law_normal C) (hr.mono (by decide)) rfl (av_cons (ev_ix hu (ev_call (d__law_turned_piece C) (hr.mono (by decide)) rfl (av_cons (ev_tup (av_cons (ev_var 15 (pv 15)) (av_cons ev_int (av_cons (ev_tup (av_cons ev_int (av_cons ev_int av_nil))) av_nil)))) (av_cons (ev_var 13 (pv 13)) av_nil)) len2) ev_int) av_nil) len1) ev_int))) (by decide))) (by decide))
    (svs_one (sv_sto (i := 7) hu (by decide) (pv 7) (ev_callB (ca_min rfl hu) rfl C.b_min (by decide +kernel) (av_cons (ev_var 14 (pv 14)) av_nil)) (ev_var 10 (pv 10)))))) svs_nil))))) (by decide))

def gL5 : Sh → Option Res := (fSet 16 [] (fLst fNil))
theorem dL5 (C : Cs K mg) (f : Addr) (cdv : Value) (A : Around) (outer : List Env) (s : Shared) (H : Hp) (E : XK) (hr : Room 8 (A.deeper (envOfC "law" (defScope st_law) s.heap.objs.size f cdv))) : SV (cxOf CX0 P w K mg base n_law "law" (defScope st_law) f cdv A outer s H E).nox [6, 7, 14, 16, 19] ((defBody st_law).getD 5 (.Pass ⟨0, 0, 0, 0⟩)) gL5 := by
  have hu := hr.units
  exact (sv_set 16 sc_law.nd rfl (.inl rfl) (ev_lst av_nil))

def gL6 : Sh → Option Res := (fFor (fItems (fSK (fVar 7))) (bName 17) (fSeq (fPar [9, 13] (fConsF [] (fCallD F__law_step (fCons (fVar 2) (fCons (fVar 17) fNil))) (fConsF [] (fC (.im (.num 1))) fNil)))
    (fSeq (fWhile (fB (f2 neU (f2 ixU (fCallD F__law_normal (fCons (fVar 9) fNil)) (fC (.im (.num 0)))) (fVar 17))) (fPar [9, 13] (fConsF [] (fCallD F__law_step (fCons (fVar 2) (fCons (fVar 9) fNil))) (fConsF [] (f2 addU (fVar 13) (fC (.im (.num 1)))) fNil))) 6)
    (fApp 16 (fTup (fCons (fVar 17) (fCons (fVar 13) (fCons (f2 ixU (fCallD F__law_normal (fCons (fVar 9) fNil)) (fC (.im (.num 1)))) fNil))))))))
theorem dL6 (C : Cs K mg) (f : Addr) (cdv : Value) (A : Around) (outer : List Env) (s : Shared) (H : Hp) (E : XK) (hr : Room 8 (A.deeper (envOfC "law" (defScope st_law) s.heap.objs.size f cdv))) : SV (cxOf CX0 P w K mg base n_law "law" (defScope st_law) f cdv A outer s H E).nox [6, 7, 14, 16, 19] ((defBody st_law).getD 6 (.Pass ⟨0, 0, 0, 0⟩)) gL6 := by
  have hu := hr.units
  exact (sv_for PassesOwn.never rfl (iv_seq (ev_sortedKeys rfl hu rfl C.b_sorted (ev_var 7 (pv 7)))) (gv_name 17 sc_law.nd rfl (.inl rfl)) (svs_cons (sv_par (i := 9) (j := 13) rfl sc_law.nd rfl rfl (by decide) rfl rfl (fv_cons (ev_call (d__law_step C) (hr.mono (by decide)) rfl (av_cons (ev_var 2 (pv 2)) (av_cons (ev_var 17 (pv 17)) av_nil)) len2) (fv_cons ev_int fv_nil)) (by rfl))
    (svs_cons (sv_while 6 PassesOwn.never (tv_cmp (ov_ne hu) (ev_ix hu (ev_call (d__law_normal C) (hr.mono (by decide)) rfl (av_cons (ev_var 9 (pv 9)) av_nil) len1) ev_int) (ev_var 17 (pv 17)) (nomark _)) (svs_one (sv_par (i := 9) (j := 13) rfl sc_law.nd rfl rfl (by decide) rfl rfl (fv_cons (ev_call (d__law_step C) (hr.mono (by decide)) rfl (av_cons (ev_var 2 (pv 2)) (av_cons (ev_var 9 (pv 9)) av_nil)) len2) (fv_cons (ev_op ov_add (ev_var 13 (pv 13)) ev_int) fv_nil)) (by rfl))))
    (svs_one (sv_app (i := 16) (by decide) (pv 16) (ev_tup (av_cons (ev_var 17 (pv 17)) (av_cons (ev_var 13 (pv 13)) (av_cons (ev_ix hu (ev_call (d__law_normal C) (hr.mono (by decide)) rfl (av_cons (ev_var 9 (pv 9)) av_nil) len1) ev_int) av_nil)))))))) (by decide))

def gL7 : Sh → Option Res := (fIfS (fNot (fB (fCallD (Fa 6) (fCons (fCallD F_stills_in_box (fCons (fVar 2) (fCons (fVar 4) (fCons (fVar 5) fNil)))) (fCons (fCall tupU (fCons (fCall srtU (fCons (fVar 6) fNil)) fNil)) fNil))))) (fRet [6, 7, 14, 16, 19] [] (fC (.bl false))) fNext)
theorem dL7 (C : Cs K mg) (f : Addr) (cdv : Value) (A : Around) (outer : List Env) (s : Shared) (H : Hp) (E : XK) (hr : Room 8 (A.deeper (envOfC "law" (defScope st_law) s.heap.objs.size f cdv))) : SV (cxOf CX0 P w K mg base n_law "law" (defScope st_law) f cdv A outer s H E).nox [6, 7, 14, 16, 19] ((defBody st_law).getD 7 (.Pass ⟨0, 0, 0, 0⟩)) gL7 := by
  have hu := hr.units
  exact (sv_if (tv_not (tv_val (ev_call (d_alike C 6) (hr.mono (by decide)) rfl (av_cons (ev_call (d_stills_in_box C) (hr.mono (by decide)) rfl (av_cons (ev_var 2 (pv 2)) (av_cons (ev_var 4 (pv 4)) (av_cons (ev_var 5 (pv 5)) av_nil))) len3) (av_cons (ev_callTy ca_tuple rfl C.b_tuple (by decide +kernel) (av_cons (ev_callB (ca_sorted hu) rfl C.b_sorted (by decide +kernel) (av_cons (ev_var 6 (pv 6)) av_nil)) av_nil)) av_nil)) len2))) (svs_one (sv_ret ev_bl)) svs_nil)

def gL8 : Sh → Option Res := (fIfS (fNot (fB (fCallD (Fa 6) (fCons (fCallD F_pieces_in_box (fCons (fVar 2) (fCons (fVar 4) (fCons (fVar 5) (fCons (fVar 3) fNil))))) (fCons (fCall tupU (fCons (fVar 16) fNil)) fNil))))) (fRet [6, 7, 14, 16, 19] [] (fC (.bl false))) fNext)
theorem dL8 (C : Cs K mg) (f : Addr) (cdv : Value) (A : Around) (outer : List Env) (s : Shared) (H : Hp) (E : XK) (hr : Room 8 (A.deeper (envOfC "law" (defScope st_law) s.heap.objs.size f cdv))) : SV (cxOf CX0 P w K mg base n_law "law" (defScope st_law) f cdv A outer s H E).nox [6, 7, 14, 16, 19] ((defBody st_law).getD 8 (.Pass ⟨0, 0, 0, 0⟩)) gL8 := by
  have hu := hr.units
  exact (sv_if (tv_not (tv_val (ev_call (d_alike C 6) (hr.mono (by decide)) rfl (av_cons (ev_call (d_pieces_in_box C) (hr.mono (by decide)) rfl (av_cons (ev_var 2 (pv 2)) (av_cons (ev_var 4 (pv 4)) (av_cons (ev_var 5 (pv 5)) (av_cons (ev_var 3 (pv 3)) av_nil)))) len4) (av_cons (ev_callTy ca_tuple rfl C.b_tuple (by decide +kernel) (av_cons (ev_var 16 (pv 16)) av_nil)) av_nil)) len2))) (svs_one (sv_ret ev_bl)) svs_nil)

def gL10 : Sh → Option Res := (fFor (fItems (fVar 18)) (bName 20) (fSeq (fSet 17 [] (fCallD F_form_of (fCons (fTup (fCons (fTup (fCons (fC (.im (.num 3))) fNil)) (fCons (fTup (fCons (fC (.im (.num 2))) (fCons (fC (.im (.num 3))) fNil))) (fCons (fC (.im (.num 2))) fNil)))) (fCons (fVar 20) fNil))))
    (fSto 19 (f2 addU (f3 getU (fVar 19) (fVar 17) (fC (.im (.num 0)))) (fC (.im (.num 1)))) (fVar 17))))
theorem dL10 (C : Cs K mg) (f : Addr) (cdv : Value) (A : Around) (outer : List Env) (s : Shared) (H : Hp) (E : XK) (hr : Room 8 (A.deeper (envOfC "law" (defScope st_law) s.heap.objs.size f cdv))) : SV (cxOf CX0 P w K mg base n_law "law" (defScope st_law) f cdv A outer s H E).nox [6, 7, 14, 16, 19] ((defBody st_law).getD 10 (.Pass ⟨0, 0, 0, 0⟩)) gL10 := by
  have hu := hr.units
  exact (sv_for PassesOwn.never rfl (iv_seq (ev_var 18 (pv 18))) (gv_name 20 sc_law.nd rfl (.inl rfl)) (svs_cons (sv_set 17 sc_law.nd rfl (.inl rfl) (ev_call (d_form_of C) (hr.mono (by decide)) rfl (av_cons (ev_tup (av_cons (ev_tup (av_cons ev_int av_nil)) (av_cons (ev_tup (av_cons ev_int (av_cons ev_int av_nil))) (av_cons ev_int av_nil)))) (av_cons (ev_var 20 (pv 20)) av_nil)) len2))
    (svs_one (sv_sto (i := 19) hu (by decide) (pv 19) (ev_var 17 (pv 17)) (ev_op ov_add (ev_get2 hu (ev_var 19 (pv 19)) (ev_var 17 (pv 17)) ev_int ⟨rfl, rfl, rfl, rfl⟩) ev_int)))) (by decide))

def gL11 : Sh → Option Res := (fRet [6, 7, 14, 16, 19] [] (fCallD (Fa 6) (fCons (fCallD F_census (fCons (fTup (fCons (fTup (fCons (fC (.im (.num 3))) fNil)) (fCons (fTup (fCons (fC (.im (.num 2))) (fCons (fC (.im (.num 3))) fNil))) (fCons (fC (.im (.num 2))) fNil)))) (fCons (fCall tupU (fCons (fVar 18) fNil)) fNil))) (fCons (fCall tupU (fCons (fLc (fItems (fSK (fVar 19))) (bName 17) fYes (fTup (fCons (fVar 17) (fCons (f2 ixU (fVar 19) (fVar 17)) fNil))) [17]) fNil)) fNil))))
theorem dL11 (C : Cs K mg) (f : Addr) (cdv : Value) (A : Around) (outer : List Env) (s : Shared) (H : Hp) (E : XK) (hr : Room 8 (A.deeper (envOfC "law" (defScope st_law) s.heap.objs.size f cdv))) : SV (cxOf CX0 P w K mg base n_law "law" (defScope st_law) f cdv A outer s H E).nox [6, 7, 14, 16, 19] ((defBody st_law).getD 11 (.Pass ⟨0, 0, 0, 0⟩)) gL11 := by
  have hu := hr.units
  exact (sv_ret (ev_call (d_alike C 6) (hr.mono (by decide)) rfl (av_cons (ev_call (d_census C) (hr.mono (by decide)) rfl (av_cons (ev_tup (av_cons (ev_tup (av_cons ev_int av_nil)) (av_cons (ev_tup (av_cons ev_int (av_cons ev_int av_nil))) (av_cons ev_int av_nil)))) (av_cons (ev_callTy ca_tuple rfl C.b_tuple (by decide +kernel) (av_cons (ev_var 18 (pv 18)) av_nil)) av_nil)) len2) (av_cons (ev_callTy ca_tuple rfl C.b_tuple (by decide +kernel) (av_cons (ev_lcW rfl sc_law.nd (iv_seq (ev_sortedKeys rfl hu rfl C.b_sorted (ev_var 19 (pv 19)))) (blkOk_by (N := n_law) (sc := defScope st_law) (own := [("_law_form", 17)]) (by decide +kernel)) (fun _ _ _ _ _ => (gv_name 17 sc_law.nd rfl (.inl rfl))) (fun _ _ _ _ _ => tsv_nil) (fun _ _ _ _ _ => (ev_tup (av_cons (ev_var 17 (pv 17)) (av_cons (ev_ix hu (ev_var 19 (pv 19)) (ev_var 17 (pv 17))) av_nil)))) (by decide)) av_nil)) av_nil)) len2))
end
end VL

set_option Elab.async false
set_option linter.all false
set_option maxRecDepth 100000
set_option maxHeartbeats 1000000
/-! VNa: the law's search, turn by turn. -/
namespace VL
open PySem L2 PyProof.Rows

theorem rnd_succ (r : Rule) (b : List Cell) : ∀ (n k : Nat), rnd r b (n + 1) k = match rnd r b n k with
    | some x => some x
    | none => if norm (stN r (k + n + 1) b) = norm b then some (k + n + 1, (minx (stN r (k + n + 1) b) - minx b, miny (stN r (k + n + 1) b) - miny b)) else none
  | 0, k => by
    show (if norm (stN r (k + 1) b) = norm b then _ else none) = _
    rfl
  | n + 1, k => by
    have ih := rnd_succ r b n (k + 1)
    have e : k + 1 + n + 1 = k + (n + 1) + 1 := by omega
    rw [e] at ih
    have e1 : rnd r b (n + 1 + 1) k = if norm (stN r (k + 1) b) = norm b then some (k + 1, (minx (stN r (k + 1) b) - minx b, miny (stN r (k + 1) b) - miny b)) else rnd r b (n + 1) (k + 1) := rfl
    have e2 : rnd r b (n + 1) k = if norm (stN r (k + 1) b) = norm b then some (k + 1, (minx (stN r (k + 1) b) - minx b, miny (stN r (k + 1) b) - miny b)) else rnd r b n (k + 1) := rfl
    rw [e1, e2]
    by_cases h : norm (stN r (k + 1) b) = norm b
    · rw [if_pos h, if_pos h]
    · rw [if_neg h, if_neg h, ih]
theorem still_iff (r : Rule) (b : List Cell) {most : Nat} (h : 1 ≤ most) : decide (rnd r b most 0 = some (1, (0, 0))) = stillB r b := by
  obtain ⟨m, rfl⟩ : ∃ m, most = m + 1 := ⟨most - 1, by omega⟩
  unfold stillB
  congr 1
  have e1 : rnd r b (m + 1) 0 = if norm (stN r 1 b) = norm b then some (1, (minx (stN r 1 b) - minx b, miny (stN r 1 b) - miny b)) else rnd r b m 1 := rfl
  have e2 : rnd r b 1 0 = if norm (stN r 1 b) = norm b then some (1, (minx (stN r 1 b) - minx b, miny (stN r 1 b) - miny b)) else none := rfl
  rw [e1, e2]
  by_cases q : norm (stN r 1 b) = norm b
  · rw [if_pos q, if_pos q]
  · rw [if_neg q, if_neg q]
    refine propext ⟨fun z => ?_, fun z => by cases z⟩
    have := rnd_some z
    omega
/-! one turn of a board -/
def gTu (Fs Fn : List U → Option U) : Sh → Option Res := (fSeq (fSet 12 [] (f2 addU (fVar 12) (fLst (fCons (fVar 9) fNil))))
    (fSeq (fSet 9 ([] ++ []) (fIf (fB (f2 ltU (fCall lenU (fCons (fVar 9) fNil)) (fC (.im (.num 60))))) (fCallD Fs (fCons (fVar 2) (fCons (fVar 9) fNil))) (fTup fNil)))
    (fIfS (fAnd (fB (f1 isNU (fVar 10))) (fB (f2 eqU (f2 ixU (fCallD Fn (fCons (fVar 9) fNil)) (fC (.im (.num 0)))) (fVar 11)))) (fSet 10 [] (fTup (fCons (fVar 13) (fCons (f2 ixU (fCallD Fn (fCons (fVar 9) fNil)) (fC (.im (.num 1)))) fNil)))) fNext)))
def tell (told : Option (Nat × Pl)) (S X : List Cell) (t : Nat) : Option (Nat × Pl) := match told with
  | some x => some x
  | none => if norm X = S then some (t, corner X) else none
theorem mkLst_b (X : List Cell) : mkLst [bD X] = some (.ls [bD X]) := mkLst_ok (by simp)
theorem addU_lb (l : List (List Cell)) (X : List Cell) (h : l.length ≤ 1000) : addU (.ls (l.map bD)) (.ls [bD X]) = some (.ls ((l ++ [X]).map bD)) := by
  show (if (l.map bD).length + 1 ≤ sizeLine then some (U.ls (l.map bD ++ [bD X])) else none) = _
  rw [if_pos (by rw [List.length_map]; exact Nat.le_of_lt (lt_size (by omega))), List.map_append]
  rfl
theorem isN_tm (t : Nat) (m : Pl) : isNU (.im (tmD t m)) = some (.bl false) := rfl
theorem gTu_ev {Fs Fn : List U → Option U} {rr : D} {X X' S : List Cell} {l : List (List Cell)} {told : Option (Nat × Pl)} {t : Nat} (e1 : Fs [.im rr, .im (bD X)] = some (.im (bD X'))) (e2 : Fn [.im (bD X')] = some (.im (nrD X'))) (hl : X.length < 60) (hll : l.length ≤ 1000) (o0 o1 o3 o4 o5 o6 o7 o8 o14 o15 o16 o17 o18 o19 o20 o21 : Option U) :
    gTu Fs Fn [o0, o1, some (.im rr), o3, o4, o5, o6, o7, o8, some (.im (bD X)), some (.im (roundD told)), some (.im (bD S)), some (.ls (l.map bD)), some (.im (.num (t : Int))), o14, o15, o16, o17, o18, o19, o20, o21] = some (.nx [o0, o1, some (.im rr), o3, o4, o5, o6, o7, o8, some (.im (bD X')), some (.im (roundD (tell told S X' t))), some (.im (bD S)), some (.ls ((l ++ [X]).map bD)), some (.im (.num (t : Int))), o14, o15, o16, o17, o18, o19, o20, o21]) := by
  have e0 : decide ((X.length : Int) < 60) = true := decide_eq_true (by omega)
  unfold tell
  cases told with
  | some x =>
    obtain ⟨u, m⟩ := x
    simp only [gTu, roundD, fRet, fU, fAnd, fOr, fB, f1, f2, f3, fSeq, fNext, fIfS, fIf, fC, fSet, fDrop, fItems, itemsU_b, itemsU_ls, itemsU_tup, fTup, fLst, fCons, fConsF, fNil, fCall, fCallD, fNot, fChain, fUnp, fPar, setAllU, fVar_0, fVar_s, Option.bind_some, Option.bind_none, Option.map_some, isB_bl, eqU_im, eqU_ls, eqU_bb, neU_im, neU_ls, neU_bl, ltU_num, gtU_num, leU_num, geU_num, addU_num, subU_num, negU_num, isN_tup, isN_none, notN_tup, notN_none, ims_nil, ims_im, okAl_im, okAl_bl, okAl_nil, okRt_im, okRt_bl, okRt_nil, mut_im, mut_bl, mut_ls, mut_dc, lenU_tup, lenU_ls, tupU_tup, listU_tup, listU_ls, intU_num, ixU_tup, ixU_ls, ixU_dc, cutU_c, ixc0, ixc1, ixc2, ixp0, ixp1, mkTup_2, mkTup_3, mkTup_nil, mkLst_nil, okArgs_im, okArgs_nil, atI_0, atI_1, atI_2, isi_num_int, isi_num_bool, isi_tup_tuple, isi_num_tuple, wipeU, List.set_cons_zero, List.set_cons_succ, List.length_cons, List.length_nil, List.map_cons, List.map_nil, if_true, if_false, if_pos, Bool.false_eq_true, Bool.not_true, Bool.not_false, Bool.true_or, Bool.false_or, List.isEmpty_nil, List.isEmpty_cons, Option.map_none, mkLst_b, addU_lb l X hll, lenU_b, e0, e1, isN_tm, List.nil_append]
  | none =>
    by_cases q : norm X' = S
    · simp only [gTu, roundD, fRet, fU, fAnd, fOr, fB, f1, f2, f3, fSeq, fNext, fIfS, fIf, fC, fSet, fDrop, fItems, itemsU_b, itemsU_ls, itemsU_tup, fTup, fLst, fCons, fConsF, fNil, fCall, fCallD, fNot, fChain, fUnp, fPar, setAllU, fVar_0, fVar_s, Option.bind_some, Option.bind_none, Option.map_some, isB_bl, eqU_im, eqU_ls, eqU_bb, neU_im, neU_ls, neU_bl, ltU_num, gtU_num, leU_num, geU_num, addU_num, subU_num, negU_num, isN_tup, isN_none, notN_tup, notN_none, ims_nil, ims_im, okAl_im, okAl_bl, okAl_nil, okRt_im, okRt_bl, okRt_nil, mut_im, mut_bl, mut_ls, mut_dc, lenU_tup, lenU_ls, tupU_tup, listU_tup, listU_ls, intU_num, ixU_tup, ixU_ls, ixU_dc, cutU_c, ixc0, ixc1, ixc2, ixp0, ixp1, mkTup_2, mkTup_3, mkTup_nil, mkLst_nil, okArgs_im, okArgs_nil, atI_0, atI_1, atI_2, isi_num_int, isi_num_bool, isi_tup_tuple, isi_num_tuple, wipeU, List.set_cons_zero, List.set_cons_succ, List.length_cons, List.length_nil, List.map_cons, List.map_nil, if_true, if_false, if_pos, Bool.false_eq_true, Bool.not_true, Bool.not_false, Bool.true_or, Bool.false_or, List.isEmpty_nil, List.isEmpty_cons, Option.map_none, mkLst_b, addU_lb l X hll, lenU_b, e0, e1, e2, nr0, nr1, bD_dec, decide_eq_true q, if_pos q, mkTup_tm, List.nil_append]
    · simp only [gTu, roundD, fRet, fU, fAnd, fOr, fB, f1, f2, f3, fSeq, fNext, fIfS, fIf, fC, fSet, fDrop, fItems, itemsU_b, itemsU_ls, itemsU_tup, fTup, fLst, fCons, fConsF, fNil, fCall, fCallD, fNot, fChain, fUnp, fPar, setAllU, fVar_0, fVar_s, Option.bind_some, Option.bind_none, Option.map_some, isB_bl, eqU_im, eqU_ls, eqU_bb, neU_im, neU_ls, neU_bl, ltU_num, gtU_num, leU_num, geU_num, addU_num, subU_num, negU_num, isN_tup, isN_none, notN_tup, notN_none, ims_nil, ims_im, okAl_im, okAl_bl, okAl_nil, okRt_im, okRt_bl, okRt_nil, mut_im, mut_bl, mut_ls, mut_dc, lenU_tup, lenU_ls, tupU_tup, listU_tup, listU_ls, intU_num, ixU_tup, ixU_ls, ixU_dc, cutU_c, ixc0, ixc1, ixc2, ixp0, ixp1, mkTup_2, mkTup_3, mkTup_nil, mkLst_nil, okArgs_im, okArgs_nil, atI_0, atI_1, atI_2, isi_num_int, isi_num_bool, isi_tup_tuple, isi_num_tuple, wipeU, List.set_cons_zero, List.set_cons_succ, List.length_cons, List.length_nil, List.map_cons, List.map_nil, if_true, if_false, if_pos, Bool.false_eq_true, Bool.not_true, Bool.not_false, Bool.true_or, Bool.false_or, List.isEmpty_nil, List.isEmpty_cons, Option.map_none, mkLst_b, addU_lb l X hll, lenU_b, e0, e1, e2, nr0, nr1, bD_dec, decide_eq_false q, if_neg q, List.nil_append]
end VL

set_option Elab.async false
set_option linter.all false
set_option maxRecDepth 100000
set_option maxHeartbeats 1000000
/-! VNb: all turns of a board; its forms. -/
namespace VL
open PySem L2 PyProof.Rows

theorem tell_rnd (r : Rule) {b : List Cell} (h0 : minx b = 0 ∧ miny b = 0) (k : Nat) : tell (rnd r b k 0) (norm b) (stN r (k + 1) b) (k + 1) = rnd r b (k + 1) 0 := by
  have e := rnd_succ r b k 0
  rw [Nat.zero_add] at e
  rw [e]
  unfold tell
  cases rnd r b k 0 with
  | some x => rfl
  | none =>
    dsimp only
    by_cases q : norm (stN r (k + 1) b) = norm b
    · rw [if_pos q, if_pos q, h0.1, h0.2]
      unfold corner
      congr 2
      exact Prod.ext (Int.sub_zero _).symm (Int.sub_zero _).symm
    · rw [if_neg q, if_neg q]
theorem turns_ev {r : Rule} (ok : r.Ok) {w h : Nat} (hx : (w, h) ∈ boxes) {b : List Cell} (B : BoxB w h b) {most : Nat} (hm : most ≤ 4) (o0 o1 o3 o4 o5 o6 o7 o8 o13 o14 o15 o16 o17 o18 o19 o20 o21 : Option U) :
    ∃ o13', loopV (bName 13) (gTu F__law_step F__law_normal) (rngD 1 most) [o0, o1, some (.im (rD r)), o3, o4, o5, o6, o7, o8, some (.im (bD b)), some (.im .none), some (.im (bD (norm b))), some (.ls []), o13, o14, o15, o16, o17, o18, o19, o20, o21] = some (.nx [o0, o1, some (.im (rD r)), o3, o4, o5, o6, o7, o8, some (.im (bD (stN r most b))), some (.im (roundD (rnd r b most 0))), some (.im (bD (norm b))), some (.ls ((phases r b most).map bD)), o13', o14, o15, o16, o17, o18, o19, o20, o21]) := by
  have key : ∀ (n k : Nat) (o13 : Option U), k + n = most → ∃ o13', loopV (bName 13) (gTu F__law_step F__law_normal) ((List.range' k n).map fun (j : Nat) => NestedKey.num (1 + (j : Int))) [o0, o1, some (.im (rD r)), o3, o4, o5, o6, o7, o8, some (.im (bD (stN r k b))), some (.im (roundD (rnd r b k 0))), some (.im (bD (norm b))), some (.ls ((phases r b k).map bD)), o13, o14, o15, o16, o17, o18, o19, o20, o21] = some (.nx [o0, o1, some (.im (rD r)), o3, o4, o5, o6, o7, o8, some (.im (bD (stN r most b))), some (.im (roundD (rnd r b most 0))), some (.im (bD (norm b))), some (.ls ((phases r b most).map bD)), o13', o14, o15, o16, o17, o18, o19, o20, o21]) := by
    intro n
    induction n with
    | zero =>
      intro k o13 hk
      have hk : k = most := by omega
      subst hk
      exact ⟨o13, rfl⟩
    | succ n ih =>
      intro k o13 hk
      have L := B.lim ok (i := k) (by omega)
      have l1 := L.len
      have e1 := E__law_step ok L.good (by omega)
      have L2 := B.lim ok (i := k + 1) (by omega)
      have l2 := L2.len
      have e2 := E__law_normal (b := stN r (k + 1) b) (by omega)
      have l60 := oct_60 hx (by omega : k < 4) L.good.is (B.oct.stN ok B.good k)
      have hp : (phases r b k).length = k := by unfold phases; simp
      have ev := gTu_ev (Fs := F__law_step) (Fn := F__law_normal) (rr := rD r) (X := stN r k b) (X' := stN r (k + 1) b) (S := norm b) (l := phases r b k) (told := rnd r b k 0) (t := k + 1) e1 e2 l60 (by omega) o0 o1 o3 o4 o5 o6 o7 o8 o14 o15 o16 o17 o18 o19 o20 o21
      rw [tell_rnd r ⟨B.fit.1, B.fit.2.1⟩ k, ← phases_succ] at ev
      obtain ⟨o13', h1⟩ := ih (k + 1) (some (.im (.num ((k + 1 : Nat) : Int)))) (by omega)
      refine ⟨o13', ?_⟩
      rw [List.range'_succ, List.map_cons]
      have ek : (1 : Int) + (k : Int) = ((k + 1 : Nat) : Int) := by omega
      rw [ek]
      generalize F__law_step = Fs at *
      generalize F__law_normal = Fn at *
      show ((gTu Fs Fn [o0, o1, some (.im (rD r)), o3, o4, o5, o6, o7, o8, some (.im (bD (stN r k b))), some (.im (roundD (rnd r b k 0))), some (.im (bD (norm b))), some (.ls ((phases r b k).map bD)), some (.im (.num ((k + 1 : Nat) : Int))), o14, o15, o16, o17, o18, o19, o20, o21]).bind fun r' => match r' with
        | .nx τ' => loopV (bName 13) (gTu Fs Fn) ((List.range' (k + 1) n).map fun (j : Nat) => NestedKey.num (1 + (j : Int))) τ'
        | .rt u => some (.rt u)) = _
      rw [ev, Option.bind_some]
      exact h1
  have := key most 0 o13 (by omega)
  unfold rngD
  rw [List.range_eq_range']
  exact this
end VL

set_option Elab.async false
set_option linter.all false
set_option maxRecDepth 100000
set_option maxHeartbeats 1000000
/-! VNc: the law's forms of a board. -/
namespace VL
open PySem L2 PyProof.Rows

def gFa (Fn Ft : List U → Option U) : Sh → Option Res := (fApp 14 (f2 ixU (fCallD Fn (fCons (f2 ixU (fCallD Ft (fCons (fTup (fCons (fVar 15) (fCons (fC (.im (.num 1))) (fCons (fTup (fCons (fC (.im (.num 0))) (fCons (fC (.im (.num 0))) fNil))) fNil)))) (fCons (fVar 13) fNil))) (fC (.im (.num 0)))) fNil)) (fC (.im (.num 0)))))
theorem gFa_ev {Fn Ft : List U → Option U} {X Y Z : List Cell} {m z : Pl} {l : List (List Cell)} {t : Int} (e1 : Ft [.im (piD X 1 (0, 0)), .im (.num t)] = some (.im (piD Y 1 m))) (e2 : Fn [.im (bD Y)] = some (.im (.tup [bD Z, pD z]))) (hl : l.length ≤ 1000000) (o0 o1 o2 o3 o4 o5 o6 o7 o8 o9 o10 o11 o12 o16 o17 o18 o19 o20 o21 : Option U) :
    gFa Fn Ft [o0, o1, o2, o3, o4, o5, o6, o7, o8, o9, o10, o11, o12, some (.im (.num t)), some (.ls (l.map bD)), some (.im (bD X)), o16, o17, o18, o19, o20, o21] = some (.nx [o0, o1, o2, o3, o4, o5, o6, o7, o8, o9, o10, o11, o12, some (.im (.num t)), some (.ls ((l ++ [Z]).map bD)), some (.im (bD X)), o16, o17, o18, o19, o20, o21]) := by
  have e3 : ixU (.im (.tup [bD Z, pD z])) (.im (.num 0)) = some (.im (bD Z)) := (ixU_tup _ _).trans (by rw [atI_0]; rfl)
  have e4 : (f2 ixU (fCallD Fn (fCons (f2 ixU (fCallD Ft (fCons (fTup (fCons (fVar 15) (fCons (fC (.im (.num 1))) (fCons (fTup (fCons (fC (.im (.num 0))) (fCons (fC (.im (.num 0))) fNil))) fNil)))) (fCons (fVar 13) fNil))) (fC (.im (.num 0)))) fNil)) (fC (.im (.num 0)))) [o0, o1, o2, o3, o4, o5, o6, o7, o8, o9, o10, o11, o12, some (.im (.num t)), some (.ls (l.map bD)), some (.im (bD X)), o16, o17, o18, o19, o20, o21] = some (.im (bD Z)) := by
    simp only [fRet, fU, fAnd, fOr, fB, f1, f2, f3, fSeq, fNext, fIfS, fIf, fC, fSet, fDrop, fItems, itemsU_b, itemsU_ls, itemsU_tup, fTup, fLst, fCons, fConsF, fNil, fCall, fCallD, fNot, fChain, fUnp, fPar, setAllU, fVar_0, fVar_s, Option.bind_some, Option.bind_none, Option.map_some, isB_bl, eqU_im, eqU_ls, eqU_bb, neU_im, neU_ls, neU_bl, ltU_num, gtU_num, leU_num, geU_num, addU_num, subU_num, negU_num, isN_tup, isN_none, notN_tup, notN_none, ims_nil, ims_im, okAl_im, okAl_bl, okAl_nil, okRt_im, okRt_bl, okRt_nil, mut_im, mut_bl, mut_ls, mut_dc, lenU_tup, lenU_ls, tupU_tup, listU_tup, listU_ls, intU_num, ixU_tup, ixU_ls, ixU_dc, cutU_c, ixc0, ixc1, ixc2, ixp0, ixp1, mkTup_2, mkTup_3, mkTup_nil, mkLst_nil, okArgs_im, okArgs_nil, atI_0, atI_1, atI_2, isi_num_int, isi_num_bool, isi_tup_tuple, isi_num_tuple, wipeU, List.set_cons_zero, List.set_cons_succ, List.length_cons, List.length_nil, List.map_cons, List.map_nil, if_true, if_false, if_pos, Bool.false_eq_true, Bool.not_true, Bool.not_false, Bool.true_or, Bool.false_or, List.isEmpty_nil, List.isEmpty_cons, Option.map_none, mkTup_pi, e1, pi0, e2, e3]
  unfold gFa
  rw [app_ev (i := 14) (ds := l.map bD) (d := bD Z) rfl e4 (by rw [List.length_map]; exact hl)]
  have e : (l ++ [Z]).map bD = l.map bD ++ [bD Z] := by rw [List.map_append]; rfl
  rw [e]
  rfl
theorem forms8_ev {Fn Ft : List U → Option U} {X : List Cell} {l : List (List Cell)} (e1 : ∀ t : Nat, t < 8 → Ft [.im (piD X 1 (0, 0)), .im (.num (t : Int))] = some (.im (piD (turn t X) 1 (turnP t (0, 0))))) (e2 : ∀ t : Nat, t < 8 → Fn [.im (bD (turn t X))] = some (.im (nrD (turn t X)))) (hl : l.length ≤ 100000) (o0 o1 o2 o3 o4 o5 o6 o7 o8 o9 o10 o11 o12 o13 o16 o17 o18 o19 o20 o21 : Option U) :
    ∃ o13', fFor (fRng1 (fCons (fC (.im (.num 8))) fNil)) (bName 13) (gFa Fn Ft) [o0, o1, o2, o3, o4, o5, o6, o7, o8, o9, o10, o11, o12, o13, some (.ls (l.map bD)), some (.im (bD X)), o16, o17, o18, o19, o20, o21] = some (.nx [o0, o1, o2, o3, o4, o5, o6, o7, o8, o9, o10, o11, o12, o13', some (.ls ((forms1 X l).map bD)), some (.im (bD X)), o16, o17, o18, o19, o20, o21]) := by
  obtain ⟨τ', h1, o13', rfl, _⟩ := loopV_ix (b := bName 13) (g := gFa Fn Ft) (fun (t : Nat) => NestedKey.num (0 + (t : Int))) (fun n (l : List (List Cell)) τ => ∃ o13, τ = [o0, o1, o2, o3, o4, o5, o6, o7, o8, o9, o10, o11, o12, o13, some (.ls (l.map bD)), some (.im (bD X)), o16, o17, o18, o19, o20, o21] ∧ l.length + n ≤ 200000) (fun l t => l ++ [norm (turn t X)]) (List.range 8) (fun t ht n l τ ⟨o13, e, hl'⟩ => by
    subst e
    have h8 := List.mem_range.mp ht
    have e0 : (0 : Int) + (t : Int) = (t : Int) := by omega
    refine ⟨_, _, rfl, ?_, some (.im (.num (t : Int))), rfl, by rw [List.length_append]; show l.length + 1 + n ≤ 200000; omega⟩
    rw [e0]
    exact gFa_ev (e1 t h8) (e2 t h8) (by omega) o0 o1 o2 o3 o4 o5 o6 o7 o8 o9 o10 o11 o12 o16 o17 o18 o19 o20 o21) 0 l [o0, o1, o2, o3, o4, o5, o6, o7, o8, o9, o10, o11, o12, o13, some (.ls (l.map bD)), some (.im (bD X)), o16, o17, o18, o19, o20, o21] ⟨o13, rfl, by rw [List.length_range]; omega⟩
  refine ⟨o13', ?_⟩
  unfold fFor
  rw [rng1_ev (k := 8) (by omega) (by simp only [fRet, fU, fAnd, fOr, fB, f1, f2, f3, fSeq, fNext, fIfS, fIf, fC, fSet, fDrop, fItems, itemsU_b, itemsU_ls, itemsU_tup, fTup, fLst, fCons, fConsF, fNil, fCall, fCallD, fNot, fChain, fUnp, fPar, setAllU, fVar_0, fVar_s, Option.bind_some, Option.bind_none, Option.map_some, isB_bl, eqU_im, eqU_ls, eqU_bb, neU_im, neU_ls, neU_bl, ltU_num, gtU_num, leU_num, geU_num, addU_num, subU_num, negU_num, isN_tup, isN_none, notN_tup, notN_none, ims_nil, ims_im, okAl_im, okAl_bl, okAl_nil, okRt_im, okRt_bl, okRt_nil, mut_im, mut_bl, mut_ls, mut_dc, lenU_tup, lenU_ls, tupU_tup, listU_tup, listU_ls, intU_num, ixU_tup, ixU_ls, ixU_dc, cutU_c, ixc0, ixc1, ixc2, ixp0, ixp1, mkTup_2, mkTup_3, mkTup_nil, mkLst_nil, okArgs_im, okArgs_nil, atI_0, atI_1, atI_2, isi_num_int, isi_num_bool, isi_tup_tuple, isi_num_tuple, wipeU, List.set_cons_zero, List.set_cons_succ, List.length_cons, List.length_nil, List.map_cons, List.map_nil, if_true, if_false, if_pos, Bool.false_eq_true, Bool.not_true, Bool.not_false, Bool.true_or, Bool.false_or, List.isEmpty_nil, List.isEmpty_cons, Option.map_none]; rfl), Option.bind_some]
  exact h1
theorem forms_loop {Fn Ft : List U → Option U} {ps : List (List Cell)} (e1 : ∀ X ∈ ps, ∀ t : Nat, t < 8 → Ft [.im (piD X 1 (0, 0)), .im (.num (t : Int))] = some (.im (piD (turn t X) 1 (turnP t (0, 0))))) (e2 : ∀ X ∈ ps, ∀ t : Nat, t < 8 → Fn [.im (bD (turn t X))] = some (.im (nrD (turn t X)))) (hl : ps.length ≤ 1000) (o0 o1 o2 o3 o4 o5 o6 o7 o8 o9 o10 o11 o12 o13 o15 o16 o17 o18 o19 o20 o21 : Option U) :
    ∃ o13' o15', loopV (bName 15) (fFor (fRng1 (fCons (fC (.im (.num 8))) fNil)) (bName 13) (gFa Fn Ft)) (ps.map bD) [o0, o1, o2, o3, o4, o5, o6, o7, o8, o9, o10, o11, o12, o13, some (.ls (([] : List (List Cell)).map bD)), o15, o16, o17, o18, o19, o20, o21] = some (.nx [o0, o1, o2, o3, o4, o5, o6, o7, o8, o9, o10, o11, o12, o13', some (.ls ((formsL ps).map bD)), o15', o16, o17, o18, o19, o20, o21]) := by
  obtain ⟨τ', h1, o13', o15', rfl, _⟩ := loopV_ix (b := bName 15) (g := fFor (fRng1 (fCons (fC (.im (.num 8))) fNil)) (bName 13) (gFa Fn Ft)) bD (fun n (l : List (List Cell)) τ => ∃ o13 o15, τ = [o0, o1, o2, o3, o4, o5, o6, o7, o8, o9, o10, o11, o12, o13, some (.ls (l.map bD)), o15, o16, o17, o18, o19, o20, o21] ∧ l.length + 8 * n ≤ 8000) (fun l X => forms1 X l) ps (fun X hX n l τ ⟨o13, o15, e, hl'⟩ => by
    subst e
    obtain ⟨o13', h2⟩ := forms8_ev (l := l) (e1 X hX) (e2 X hX) (by omega) o0 o1 o2 o3 o4 o5 o6 o7 o8 o9 o10 o11 o12 o13 o16 o17 o18 o19 o20 o21
    refine ⟨_, _, rfl, h2, o13', some (.im (bD X)), rfl, ?_⟩
    rw [forms1_eq, List.length_append, List.length_map, List.length_range]
    omega) 0 [] [o0, o1, o2, o3, o4, o5, o6, o7, o8, o9, o10, o11, o12, o13, some (.ls (([] : List (List Cell)).map bD)), o15, o16, o17, o18, o19, o20, o21] ⟨o13, o15, rfl, by show 0 + 8 * (ps.length + 0) ≤ 8000; omega⟩
  exact ⟨o13', o15', h1⟩
end VL

set_option Elab.async false
set_option linter.all false
set_option maxRecDepth 100000
set_option maxHeartbeats 1000000
/-! VNd: the law's search over the boards of a box. -/
namespace VL
open PySem L2 PyProof.Rows

def gBa (Fn : List U → Option U) : Sh → Option Res := (fPar [9, 10, 11, 12] (fConsF [8] (fVar 8) (fConsF [] (fC (.im .none)) (fConsF [] (f2 ixU (fCallD Fn (fCons (fVar 8) fNil)) (fC (.im (.num 0)))) (fConsF [] (fLst fNil) fNil)))))
def gBc : Sh → Option Res := (fIfS (fB (f2 eqU (fVar 10) (fTup (fCons (fC (.im (.num 1))) (fCons (fTup (fCons (fC (.im (.num 0))) (fCons (fC (.im (.num 0))) fNil))) fNil))))) (fApp 6 (fVar 8)) fNext)
def gBd (Fn Ft : List U → Option U) : Sh → Option Res := (fIfS (fB (f1 notNU (fVar 10))) (fSeq (fSet 14 [] (fLst fNil))
    (fSeq (fFor (fItems (f2 cutU (fVar 12) (f2 ixU (fVar 10) (fC (.im (.num 0)))))) (bName 15) (fFor (fRng1 (fCons (fC (.im (.num 8))) fNil)) (bName 13) (gFa Fn Ft)))
    (fSto 7 (fVar 10) (fCall minU (fCons (fVar 14) fNil))))) fNext)
theorem gBa_ev {Fn : List U → Option U} {b : List Cell} (e : Fn [.im (bD b)] = some (.im (nrD b))) (o0 o1 o2 o3 o4 o5 o6 o7 o9 o10 o11 o12 o13 o14 o15 o16 o17 o18 o19 o20 o21 : Option U) : gBa Fn [o0, o1, o2, o3, o4, o5, o6, o7, some (.im (bD b)), o9, o10, o11, o12, o13, o14, o15, o16, o17, o18, o19, o20, o21] = some (.nx [o0, o1, o2, o3, o4, o5, o6, o7, some (.im (bD b)), some (.im (bD b)), some (.im .none), some (.im (bD (norm b))), some (.ls []), o13, o14, o15, o16, o17, o18, o19, o20, o21]) := by
  simp only [gBa, fRet, fU, fAnd, fOr, fB, f1, f2, f3, fSeq, fNext, fIfS, fIf, fC, fSet, fDrop, fItems, itemsU_b, itemsU_ls, itemsU_tup, fTup, fLst, fCons, fConsF, fNil, fCall, fCallD, fNot, fChain, fUnp, fPar, setAllU, fVar_0, fVar_s, Option.bind_some, Option.bind_none, Option.map_some, isB_bl, eqU_im, eqU_ls, eqU_bb, neU_im, neU_ls, neU_bl, ltU_num, gtU_num, leU_num, geU_num, addU_num, subU_num, negU_num, isN_tup, isN_none, notN_tup, notN_none, ims_nil, ims_im, okAl_im, okAl_bl, okAl_nil, okRt_im, okRt_bl, okRt_nil, mut_im, mut_bl, mut_ls, mut_dc, lenU_tup, lenU_ls, tupU_tup, listU_tup, listU_ls, intU_num, ixU_tup, ixU_ls, ixU_dc, cutU_c, ixc0, ixc1, ixc2, ixp0, ixp1, mkTup_2, mkTup_3, mkTup_nil, mkLst_nil, okArgs_im, okArgs_nil, atI_0, atI_1, atI_2, isi_num_int, isi_num_bool, isi_tup_tuple, isi_num_tuple, wipeU, List.set_cons_zero, List.set_cons_succ, List.length_cons, List.length_nil, List.map_cons, List.map_nil, if_true, if_false, if_pos, Bool.false_eq_true, Bool.not_true, Bool.not_false, Bool.true_or, Bool.false_or, List.isEmpty_nil, List.isEmpty_cons, Option.map_none, e, nr0, Bool.or_true]
theorem gBc_ev (x : Option (Nat × Pl)) {b : List Cell} {stl : List (List Cell)} (hl : stl.length ≤ 1000) (o0 o1 o2 o3 o4 o5 o7 o9 o11 o12 o13 o14 o15 o16 o17 o18 o19 o20 o21 : Option U) : gBc [o0, o1, o2, o3, o4, o5, some (.ls (stl.map bD)), o7, some (.im (bD b)), o9, some (.im (roundD x)), o11, o12, o13, o14, o15, o16, o17, o18, o19, o20, o21] = some (.nx [o0, o1, o2, o3, o4, o5, some (.ls ((if x = some (1, (0, 0)) then stl ++ [b] else stl).map bD)), o7, some (.im (bD b)), o9, some (.im (roundD x)), o11, o12, o13, o14, o15, o16, o17, o18, o19, o20, o21]) := by
  have e1 : mkTup [.num 1, pD (0, 0)] = some (.im (tmD 1 (0, 0))) := mkTup_tm 1 (0, 0)
  by_cases q : x = some (1, (0, 0))
  · simp only [gBc, fRet, fU, fAnd, fOr, fB, f1, f2, f3, fSeq, fNext, fIfS, fIf, fC, fSet, fDrop, fItems, itemsU_b, itemsU_ls, itemsU_tup, fTup, fLst, fCons, fConsF, fNil, fCall, fCallD, fNot, fChain, fUnp, fPar, setAllU, fVar_0, fVar_s, Option.bind_some, Option.bind_none, Option.map_some, isB_bl, eqU_im, eqU_ls, eqU_bb, neU_im, neU_ls, neU_bl, ltU_num, gtU_num, leU_num, geU_num, addU_num, subU_num, negU_num, isN_tup, isN_none, notN_tup, notN_none, ims_nil, ims_im, okAl_im, okAl_bl, okAl_nil, okRt_im, okRt_bl, okRt_nil, mut_im, mut_bl, mut_ls, mut_dc, lenU_tup, lenU_ls, tupU_tup, listU_tup, listU_ls, intU_num, ixU_tup, ixU_ls, ixU_dc, cutU_c, ixc0, ixc1, ixc2, ixp0, ixp1, mkTup_2, mkTup_3, mkTup_nil, mkLst_nil, okArgs_im, okArgs_nil, atI_0, atI_1, atI_2, isi_num_int, isi_num_bool, isi_tup_tuple, isi_num_tuple, wipeU, List.set_cons_zero, List.set_cons_succ, List.length_cons, List.length_nil, List.map_cons, List.map_nil, if_true, if_false, if_pos, Bool.false_eq_true, Bool.not_true, Bool.not_false, Bool.true_or, Bool.false_or, List.isEmpty_nil, List.isEmpty_cons, Option.map_none, e1, dec_round, decide_eq_true q, if_pos q]
    rw [app_ev (i := 6) (ds := stl.map bD) (d := bD b) rfl rfl (by rw [List.length_map]; omega)]
    have e : (stl ++ [b]).map bD = stl.map bD ++ [bD b] := by rw [List.map_append]; rfl
    rw [e]
    rfl
  · simp only [gBc, fRet, fU, fAnd, fOr, fB, f1, f2, f3, fSeq, fNext, fIfS, fIf, fC, fSet, fDrop, fItems, itemsU_b, itemsU_ls, itemsU_tup, fTup, fLst, fCons, fConsF, fNil, fCall, fCallD, fNot, fChain, fUnp, fPar, setAllU, fVar_0, fVar_s, Option.bind_some, Option.bind_none, Option.map_some, isB_bl, eqU_im, eqU_ls, eqU_bb, neU_im, neU_ls, neU_bl, ltU_num, gtU_num, leU_num, geU_num, addU_num, subU_num, negU_num, isN_tup, isN_none, notN_tup, notN_none, ims_nil, ims_im, okAl_im, okAl_bl, okAl_nil, okRt_im, okRt_bl, okRt_nil, mut_im, mut_bl, mut_ls, mut_dc, lenU_tup, lenU_ls, tupU_tup, listU_tup, listU_ls, intU_num, ixU_tup, ixU_ls, ixU_dc, cutU_c, ixc0, ixc1, ixc2, ixp0, ixp1, mkTup_2, mkTup_3, mkTup_nil, mkLst_nil, okArgs_im, okArgs_nil, atI_0, atI_1, atI_2, isi_num_int, isi_num_bool, isi_tup_tuple, isi_num_tuple, wipeU, List.set_cons_zero, List.set_cons_succ, List.length_cons, List.length_nil, List.map_cons, List.map_nil, if_true, if_false, if_pos, Bool.false_eq_true, Bool.not_true, Bool.not_false, Bool.true_or, Bool.false_or, List.isEmpty_nil, List.isEmpty_cons, Option.map_none, e1, dec_round, decide_eq_false q, if_neg q]
theorem cut_ls (ds : List D) (t : Nat) (h : t ≤ ds.length) : cutU (.ls ds) (.im (.num (t : Int))) = some (.ls (ds.take t)) := by
  show some (U.ls (cutD ds (t : Int))) = _
  unfold cutD
  rw [HT.sIx_nat, Nat.min_eq_left h]
theorem phases_take (r : Rule) (b : List Cell) {t n : Nat} (h : t ≤ n) : (phases r b n).take t = phases r b t := by
  unfold phases
  rw [← List.map_take, List.take_range, Nat.min_eq_left h]
theorem gBd_some {Fn Ft : List U → Option U} {r : Rule} {b : List Cell} {most t : Nat} {m : Pl} {kvs : List (D × W)} {fs : List (List Cell)} (F : DF isTm kvs fs) (hf : fs.length ≤ 1000) (t1 : 1 ≤ t) (tm : t ≤ most) (hm : most ≤ 1000)
    (e1 : ∀ X ∈ phases r b t, ∀ t : Nat, t < 8 → Ft [.im (piD X 1 (0, 0)), .im (.num (t : Int))] = some (.im (piD (turn t X) 1 (turnP t (0, 0))))) (e2 : ∀ X ∈ phases r b t, ∀ t : Nat, t < 8 → Fn [.im (bD (turn t X))] = some (.im (nrD (turn t X)))) (o0 o1 o2 o3 o4 o5 o6 o8 o9 o11 o13 o14 o15 o16 o17 o18 o19 o20 o21 : Option U) :
    ∃ kvs' o13' o14' o15', gBd Fn Ft [o0, o1, o2, o3, o4, o5, o6, some (.dc kvs), o8, o9, some (.im (tmD t m)), o11, some (.ls ((phases r b most).map bD)), o13, o14, o15, o16, o17, o18, o19, o20, o21] = some (.nx [o0, o1, o2, o3, o4, o5, o6, some (.dc kvs'), o8, o9, some (.im (tmD t m)), o11, some (.ls ((phases r b most).map bD)), o13', o14', o15', o16, o17, o18, o19, o20, o21]) ∧ DF isTm kvs' (insF fs (minF (formsL (phases r b t)))) := by
  have hp : (phases r b t).length = t := by unfold phases; simp
  have hpm : (phases r b most).length = most := by unfold phases; simp
  have hne : phases r b t ≠ [] := by
    intro z
    rw [z, List.length_nil] at hp
    omega
  obtain ⟨m1, m2⟩ := minF_is (formsL_ne hne)
  have em := minU_b (formsL_ne hne)
  rw [m1] at em
  obtain ⟨o13', o15', h1⟩ := forms_loop e1 e2 (by omega) o0 o1 o2 o3 o4 o5 o6 (some (.dc kvs)) o8 o9 (some (.im (tmD t m))) o11 (some (.ls ((phases r b most).map bD))) o13 o15 o16 o17 o18 o19 o20 o21
  refine ⟨stoD kvs (bD (minF (formsL (phases r b t)))) (.k (tmD t m)), o13', some (.ls ((formsL (phases r b t)).map bD)), o15', ?_, F.sto _ ⟨t, m, rfl⟩⟩
  have hk := F.len
  have s0 : fB (f1 notNU (fVar 10)) [o0, o1, o2, o3, o4, o5, o6, some (.dc kvs), o8, o9, some (.im (tmD t m)), o11, some (.ls ((phases r b most).map bD)), o13, o14, o15, o16, o17, o18, o19, o20, o21] = some true := rfl
  have s1 : fSet 14 [] (fLst fNil) [o0, o1, o2, o3, o4, o5, o6, some (.dc kvs), o8, o9, some (.im (tmD t m)), o11, some (.ls ((phases r b most).map bD)), o13, o14, o15, o16, o17, o18, o19, o20, o21] = some (.nx [o0, o1, o2, o3, o4, o5, o6, some (.dc kvs), o8, o9, some (.im (tmD t m)), o11, some (.ls ((phases r b most).map bD)), o13, some (.ls (([] : List (List Cell)).map bD)), o15, o16, o17, o18, o19, o20, o21]) := by
    simp only [fRet, fU, fAnd, fOr, fB, f1, f2, f3, fSeq, fNext, fIfS, fIf, fC, fSet, fDrop, fItems, itemsU_b, itemsU_ls, itemsU_tup, fTup, fLst, fCons, fConsF, fNil, fCall, fCallD, fNot, fChain, fUnp, fPar, setAllU, fVar_0, fVar_s, Option.bind_some, Option.bind_none, Option.map_some, isB_bl, eqU_im, eqU_ls, eqU_bb, neU_im, neU_ls, neU_bl, ltU_num, gtU_num, leU_num, geU_num, addU_num, subU_num, negU_num, isN_tup, isN_none, notN_tup, notN_none, ims_nil, ims_im, okAl_im, okAl_bl, okAl_nil, okRt_im, okRt_bl, okRt_nil, mut_im, mut_bl, mut_ls, mut_dc, lenU_tup, lenU_ls, tupU_tup, listU_tup, listU_ls, intU_num, ixU_tup, ixU_ls, ixU_dc, cutU_c, ixc0, ixc1, ixc2, ixp0, ixp1, mkTup_2, mkTup_3, mkTup_nil, mkLst_nil, okArgs_im, okArgs_nil, atI_0, atI_1, atI_2, isi_num_int, isi_num_bool, isi_tup_tuple, isi_num_tuple, wipeU, List.set_cons_zero, List.set_cons_succ, List.length_cons, List.length_nil, List.map_cons, List.map_nil, if_true, if_false, if_pos, Bool.false_eq_true, Bool.not_true, Bool.not_false, Bool.true_or, Bool.false_or, List.isEmpty_nil, List.isEmpty_cons, Option.map_none]
  have s2 : fItems (f2 cutU (fVar 12) (f2 ixU (fVar 10) (fC (.im (.num 0))))) [o0, o1, o2, o3, o4, o5, o6, some (.dc kvs), o8, o9, some (.im (tmD t m)), o11, some (.ls ((phases r b most).map bD)), o13, some (.ls (([] : List (List Cell)).map bD)), o15, o16, o17, o18, o19, o20, o21] = some ((phases r b t).map bD) := by
    have c := cut_ls ((phases r b most).map bD) t (by rw [List.length_map, hpm]; exact tm)
    rw [← List.map_take, phases_take r b tm] at c
    simp only [fItems, f2, fC, fVar_0, fVar_s, Option.bind_some, tm0, c, itemsU_ls]
  have s3 : fSto 7 (fVar 10) (fCall minU (fCons (fVar 14) fNil)) [o0, o1, o2, o3, o4, o5, o6, some (.dc kvs), o8, o9, some (.im (tmD t m)), o11, some (.ls ((phases r b most).map bD)), o13', some (.ls ((formsL (phases r b t)).map bD)), o15', o16, o17, o18, o19, o20, o21] = some (.nx [o0, o1, o2, o3, o4, o5, o6, some (.dc (stoD kvs (bD (minF (formsL (phases r b t)))) (.k (tmD t m)))), o8, o9, some (.im (tmD t m)), o11, some (.ls ((phases r b most).map bD)), o13', some (.ls ((formsL (phases r b t)).map bD)), o15', o16, o17, o18, o19, o20, o21]) := by
    rw [stoF_ev (i := 7) (kvs := kvs) (f := minF (formsL (phases r b t))) (d := tmD t m) rfl rfl (by simp only [fCall, fCons, fNil, fVar_0, fVar_s, Option.bind_some, em]) (by omega)]
    rfl
  unfold gBd fIfS fSeq
  rw [s0, Option.bind_some, if_pos rfl, s1, Option.bind_some]
  dsimp only
  have s4 : fFor (fItems (f2 cutU (fVar 12) (f2 ixU (fVar 10) (fC (.im (.num 0)))))) (bName 15) (fFor (fRng1 (fCons (fC (.im (.num 8))) fNil)) (bName 13) (gFa Fn Ft)) [o0, o1, o2, o3, o4, o5, o6, some (.dc kvs), o8, o9, some (.im (tmD t m)), o11, some (.ls ((phases r b most).map bD)), o13, some (.ls (([] : List (List Cell)).map bD)), o15, o16, o17, o18, o19, o20, o21] = some (.nx [o0, o1, o2, o3, o4, o5, o6, some (.dc kvs), o8, o9, some (.im (tmD t m)), o11, some (.ls ((phases r b most).map bD)), o13', some (.ls ((formsL (phases r b t)).map bD)), o15', o16, o17, o18, o19, o20, o21]) := by
    have h2 := h1
    generalize fFor (fRng1 (fCons (fC (.im (.num 8))) fNil)) (bName 13) (gFa Fn Ft) = gg at h2 ⊢
    unfold fFor
    rw [s2, Option.bind_some]
    exact h2
  rw [s4, Option.bind_some]
  exact s3
end VL

set_option Elab.async false
set_option linter.all false
set_option maxRecDepth 100000
set_option maxHeartbeats 1000000
/-! VNe: statement 4 of the law. -/
namespace VL
open PySem L2 PyProof.Rows

def gB4 (Fs Fn Ft : List U → Option U) : Sh → Option Res := fSeq (gBa Fn) (fSeq (fFor (fRng2 (fCons (fC (.im (.num 1))) (fCons (f2 addU (fVar 3) (fC (.im (.num 1)))) fNil))) (bName 13) (gTu Fs Fn)) (fSeq gBc (gBd Fn Ft)))
theorem gBd_none {Fn Ft : List U → Option U} {τ : Sh} (h : fVar 10 τ = some (.im .none)) : gBd Fn Ft τ = some (.nx τ) := by
  unfold gBd fIfS fB f1
  rw [h]
  rfl
theorem gB4_ev {r : Rule} (ok : r.Ok) {w h : Nat} (hx : (w, h) ∈ boxes) {b : List Cell} (B : BoxB w h b) {most : Nat} (m1 : 1 ≤ most) (hm : most ≤ 4) {stl : List (List Cell)} (hl : stl.length ≤ 1000) {kvs : List (D × W)} {fs : List (List Cell)} (F : DF isTm kvs fs) (hf : fs.length ≤ 1000) (o0 o1 o9 o10 o11 o12 o13 o14 o15 o16 o17 o18 o19 o20 o21 : Option U) :
    ∃ kvs' o9' o10' o11' o12' o13' o14' o15', gB4 F__law_step F__law_normal F__law_turned_piece [o0, o1, some (.im (rD r)), some (.im (.num (most : Int))), some (.im (.num (w : Int))), some (.im (.num (h : Int))), some (.ls (stl.map bD)), some (.dc kvs), some (.im (bD b)), o9, o10, o11, o12, o13, o14, o15, o16, o17, o18, o19, o20, o21] = some (.nx [o0, o1, some (.im (rD r)), some (.im (.num (most : Int))), some (.im (.num (w : Int))), some (.im (.num (h : Int))), some (.ls ((if stillB r b = true then stl ++ [b] else stl).map bD)), some (.dc kvs'), some (.im (bD b)), o9', o10', o11', o12', o13', o14', o15', o16, o17, o18, o19, o20, o21]) ∧ DF isTm kvs' (keyF r most fs b) := by
  have l0 := (B.lim ok (i := 0) (by omega)).len
  have l0 : b.length ≤ 3000 := l0
  have en := E__law_normal (b := b) (by omega)
  have a1 := gBa_ev (Fn := F__law_normal) (b := b) en o0 o1 (some (.im (rD r))) (some (.im (.num (most : Int)))) (some (.im (.num (w : Int)))) (some (.im (.num (h : Int)))) (some (.ls (stl.map bD))) (some (.dc kvs)) o9 o10 o11 o12 o13 o14 o15 o16 o17 o18 o19 o20 o21
  obtain ⟨o13', a2⟩ := turns_ev ok hx B hm o0 o1 (some (.im (.num (most : Int)))) (some (.im (.num (w : Int)))) (some (.im (.num (h : Int)))) (some (.ls (stl.map bD))) (some (.dc kvs)) (some (.im (bD b))) o13 o14 o15 o16 o17 o18 o19 o20 o21
  have a3 := gBc_ev (rnd r b most 0) (b := b) (stl := stl) hl o0 o1 (some (.im (rD r))) (some (.im (.num (most : Int)))) (some (.im (.num (w : Int)))) (some (.im (.num (h : Int)))) (some (.dc kvs)) (some (.im (bD (stN r most b)))) (some (.im (bD (norm b)))) (some (.ls ((phases r b most).map bD))) (o13') o14 o15 o16 o17 o18 o19 o20 o21
  have est : (if rnd r b most 0 = some (1, (0, 0)) then stl ++ [b] else stl) = (if stillB r b = true then stl ++ [b] else stl) := by
    have q := still_iff r b m1
    by_cases z : rnd r b most 0 = some (1, (0, 0))
    · rw [decide_eq_true z] at q
      rw [if_pos z, if_pos q.symm]
    · rw [decide_eq_false z] at q
      rw [if_neg z, if_neg (by rw [← q]; exact Bool.false_ne_true)]
  rw [est] at a3
  have a2' : fFor (fRng2 (fCons (fC (.im (.num 1))) (fCons (f2 addU (fVar 3) (fC (.im (.num 1)))) fNil))) (bName 13) (gTu F__law_step F__law_normal) [o0, o1, some (.im (rD r)), some (.im (.num (most : Int))), some (.im (.num (w : Int))), some (.im (.num (h : Int))), some (.ls (stl.map bD)), some (.dc kvs), some (.im (bD b)), some (.im (bD b)), some (.im .none), some (.im (bD (norm b))), some (.ls []), o13, o14, o15, o16, o17, o18, o19, o20, o21] = some (.nx [o0, o1, some (.im (rD r)), some (.im (.num (most : Int))), some (.im (.num (w : Int))), some (.im (.num (h : Int))), some (.ls (stl.map bD)), some (.dc kvs), some (.im (bD b)), some (.im (bD (stN r most b))), some (.im (roundD (rnd r b most 0))), some (.im (bD (norm b))), some (.ls ((phases r b most).map bD)), o13', o14, o15, o16, o17, o18, o19, o20, o21]) := by
    generalize gTu F__law_step F__law_normal = gg at a2 ⊢
    unfold fFor
    rw [rng2_ev (k := most) (by omega) (by simp only [fCons, fC, fNil, f2, fVar_0, fVar_s, Option.bind_some, addU_num]), Option.bind_some]
    exact a2
  have fin : ∃ kvs' o10' o13'' o14' o15', gBd F__law_normal F__law_turned_piece [o0, o1, some (.im (rD r)), some (.im (.num (most : Int))), some (.im (.num (w : Int))), some (.im (.num (h : Int))), some (.ls ((if stillB r b = true then stl ++ [b] else stl).map bD)), some (.dc kvs), some (.im (bD b)), some (.im (bD (stN r most b))), some (.im (roundD (rnd r b most 0))), some (.im (bD (norm b))), some (.ls ((phases r b most).map bD)), o13', o14, o15, o16, o17, o18, o19, o20, o21] = some (.nx [o0, o1, some (.im (rD r)), some (.im (.num (most : Int))), some (.im (.num (w : Int))), some (.im (.num (h : Int))), some (.ls ((if stillB r b = true then stl ++ [b] else stl).map bD)), some (.dc kvs'), some (.im (bD b)), some (.im (bD (stN r most b))), o10', some (.im (bD (norm b))), some (.ls ((phases r b most).map bD)), o13'', o14', o15', o16, o17, o18, o19, o20, o21]) ∧ DF isTm kvs' (keyF r most fs b) := by
    unfold keyF
    cases q : rnd r b most 0 with
    | none => exact ⟨kvs, _, o13', o14, o15, gBd_none rfl, F⟩
    | some x =>
      obtain ⟨t, m⟩ := x
      obtain ⟨t1, t2, _⟩ := rnd_some q
      have hlim : ∀ X ∈ phases r b t, Lim X := fun X hX => by
        obtain ⟨j, hj, rfl⟩ := List.mem_map.mp hX
        have := List.mem_range.mp hj
        exact B.lim ok (by omega)
      obtain ⟨kvs', p13, p14, p15, e1, e2⟩ := gBd_some (Fn := F__law_normal) (Ft := F__law_turned_piece) (r := r) (b := b) (m := m) F hf t1 (by omega : t ≤ most) (by omega) (fun X hX t ht => E__law_turned_piece (by have := (hlim X hX).len; omega) 1 (0, 0) ht) (fun X hX t ht => E__law_normal (by rw [turn_len]; have := (hlim X hX).len; omega)) o0 o1 (some (.im (rD r))) (some (.im (.num (most : Int)))) (some (.im (.num (w : Int)))) (some (.im (.num (h : Int)))) (some (.ls ((if stillB r b = true then stl ++ [b] else stl).map bD))) (some (.im (bD b))) (some (.im (bD (stN r most b)))) (some (.im (bD (norm b)))) (o13') o14 o15 o16 o17 o18 o19 o20 o21
      exact ⟨kvs', _, p13, p14, p15, e1, e2⟩
  obtain ⟨kvs', o10', o13'', o14', o15', e1, e2⟩ := fin
  refine ⟨kvs', some (.im (bD (stN r most b))), o10', some (.im (bD (norm b))), some (.ls ((phases r b most).map bD)), o13'', o14', o15', ?_, e2⟩
  generalize F__law_step = Fs at *
  generalize F__law_normal = Fn at *
  generalize F__law_turned_piece = Ft at *
  unfold gB4 fSeq
  rw [a1, Option.bind_some]
  dsimp only
  rw [a2', Option.bind_some]
  dsimp only
  rw [a3, Option.bind_some]
  exact e1
end VL

set_option Elab.async false
set_option linter.all false
set_option maxRecDepth 100000
set_option maxHeartbeats 1000000
/-! VNf: the search of the law over all boards. -/
namespace VL
open PySem L2 PyProof.Rows

def addS (r : Rule) (stl : List (List Cell)) (b : List Cell) : List (List Cell) := if stillB r b = true then stl ++ [b] else stl
theorem addS_all (r : Rule) : ∀ (bs l : List (List Cell)), bs.foldl (addS r) l = l ++ bs.filter (stillB r)
  | [], l => by simp
  | b :: bs, l => by
    rw [List.foldl_cons, addS_all r bs, List.filter_cons]
    unfold addS
    by_cases q : stillB r b = true
    · rw [if_pos q, if_pos q, List.append_assoc]
      rfl
    · rw [if_neg q, if_neg q]
theorem addS_len (r : Rule) (l : List (List Cell)) (b : List Cell) : (addS r l b).length ≤ l.length + 1 := by
  unfold addS
  split
  · rw [List.length_append]; exact Nat.le_refl _
  · omega
def both (r : Rule) (most : Nat) (x : List (List Cell) × List (List Cell)) (b : List Cell) : List (List Cell) × List (List Cell) := (addS r x.1 b, keyF r most x.2 b)
theorem both_all (r : Rule) (most : Nat) : ∀ (bs : List (List Cell)) (x : List (List Cell) × List (List Cell)), bs.foldl (both r most) x = (bs.foldl (addS r) x.1, bs.foldl (keyF r most) x.2)
  | [], x => rfl
  | b :: bs, x => by rw [List.foldl_cons, both_all r most bs]; rfl
theorem gL4_eq : gL4 = fFor (fItems (fCallD F__law_box_boards (fCons (fVar 4) (fCons (fVar 5) fNil)))) (bName 8) (gB4 F__law_step F__law_normal F__law_turned_piece) := rfl
theorem gL4_ev {r : Rule} (ok : r.Ok) {w h : Nat} (hx : (w, h) ∈ boxes) {most : Nat} (m1 : 1 ≤ most) (hm : most ≤ 4) (o0 o1 o8 o9 o10 o11 o12 o13 o14 o15 o16 o17 o18 o19 o20 o21 : Option U) :
    ∃ kvs o8' o9' o10' o11' o12' o13' o14' o15', gL4 [o0, o1, some (.im (rD r)), some (.im (.num (most : Int))), some (.im (.num (w : Int))), some (.im (.num (h : Int))), some (.ls []), some (.dc []), o8, o9, o10, o11, o12, o13, o14, o15, o16, o17, o18, o19, o20, o21] = some (.nx [o0, o1, some (.im (rD r)), some (.im (.num (most : Int))), some (.im (.num (w : Int))), some (.im (.num (h : Int))), some (.ls (((boxB w h).filter (stillB r)).map bD)), some (.dc kvs), o8', o9', o10', o11', o12', o13', o14', o15', o16, o17, o18, o19, o20, o21]) ∧ DF isTm kvs (formsOf r w h most) := by
  obtain ⟨b1, b2, b3, b4, b5⟩ := box_small hx
  have eb := E__law_box_boards (w := w) (h := h) b5 (by omega) (by omega)
  obtain ⟨_, lb⟩ := E_boards_in (w := w) (h := h) b5 (by omega) (by omega)
  obtain ⟨τ', l1, kvs, o8', o9', o10', o11', o12', o13', o14', o15', rfl, F, _⟩ := loopV_ix (b := bName 8) (g := gB4 F__law_step F__law_normal F__law_turned_piece) bD (fun n (x : List (List Cell) × List (List Cell)) τ => ∃ kvs o8 o9 o10 o11 o12 o13 o14 o15, τ = [o0, o1, some (.im (rD r)), some (.im (.num (most : Int))), some (.im (.num (w : Int))), some (.im (.num (h : Int))), some (.ls (x.1.map bD)), some (.dc kvs), o8, o9, o10, o11, o12, o13, o14, o15, o16, o17, o18, o19, o20, o21] ∧ DF isTm kvs x.2 ∧ x.1.length + n ≤ 100 ∧ x.2.length + n ≤ 100) (both r most) (boxB w h) (fun b hb n x τ ⟨kvs, o8, o9, o10, o11, o12, o13, o14, o15, e, F, h1, h2⟩ => by
    subst e
    obtain ⟨kvs', o9', o10', o11', o12', o13', o14', o15', e1, F'⟩ := gB4_ev ok hx (boxB_is hx hb) m1 hm (stl := x.1) (by omega) F (by omega) o0 o1 o9 o10 o11 o12 o13 o14 o15 o16 o17 o18 o19 o20 o21
    refine ⟨_, _, rfl, e1, kvs', some (.im (bD b)), o9', o10', o11', o12', o13', o14', o15', rfl, F', ?_, ?_⟩
    · have := addS_len r x.1 b
      show (addS r x.1 b).length + n ≤ 100
      omega
    · have := keyF_len r most x.2 b
      show (keyF r most x.2 b).length + n ≤ 100
      omega) 0 ([], []) [o0, o1, some (.im (rD r)), some (.im (.num (most : Int))), some (.im (.num (w : Int))), some (.im (.num (h : Int))), some (.ls []), some (.dc []), o8, o9, o10, o11, o12, o13, o14, o15, o16, o17, o18, o19, o20, o21] ⟨[], o8, o9, o10, o11, o12, o13, o14, o15, rfl, DF.nil, by show 0 + ((boxB w h).length + 0) ≤ 100; omega, by show 0 + ((boxB w h).length + 0) ≤ 100; omega⟩
  rw [both_all, addS_all] at l1
  rw [both_all] at F
  refine ⟨kvs, o8', o9', o10', o11', o12', o13', o14', o15', ?_, F⟩
  rw [gL4_eq]
  generalize F__law_box_boards = Fb at *
  generalize gB4 F__law_step F__law_normal F__law_turned_piece = gg at *
  unfold fFor
  rw [show fItems (fCallD Fb (fCons (fVar 4) (fCons (fVar 5) fNil))) [o0, o1, some (.im (rD r)), some (.im (.num (most : Int))), some (.im (.num (w : Int))), some (.im (.num (h : Int))), some (.ls []), some (.dc []), o8, o9, o10, o11, o12, o13, o14, o15, o16, o17, o18, o19, o20, o21] = some ((boxB w h).map bD) from items_call2 rfl rfl eb, Option.bind_some]
  exact l1
end VL

set_option Elab.async false
set_option linter.all false
set_option maxRecDepth 100000
set_option maxHeartbeats 1000000
/-! VNg: what the law counts as due. -/
namespace VL
open PySem L2 PyProof.Rows

def gDa (Fs : List U → Option U) : Sh → Option Res := (fPar [9, 13] (fConsF [] (fCallD Fs (fCons (fVar 2) (fCons (fVar 17) fNil))) (fConsF [] (fC (.im (.num 1))) fNil)))
def gDb (Fs : List U → Option U) : Sh → Option Res := (fPar [9, 13] (fConsF [] (fCallD Fs (fCons (fVar 2) (fCons (fVar 9) fNil))) (fConsF [] (f2 addU (fVar 13) (fC (.im (.num 1)))) fNil)))
def gDc (Fn : List U → Option U) : Sh → Option Bool := (fB (f2 neU (f2 ixU (fCallD Fn (fCons (fVar 9) fNil)) (fC (.im (.num 0)))) (fVar 17)))
def gDd (Fn : List U → Option U) : Sh → Option Res := (fApp 16 (fTup (fCons (fVar 17) (fCons (fVar 13) (fCons (f2 ixU (fCallD Fn (fCons (fVar 9) fNil)) (fC (.im (.num 1)))) fNil)))))
def gDu (Fs Fn : List U → Option U) : Sh → Option Res := fSeq (gDa Fs) (fSeq (fWhile (gDc Fn) (gDb Fs) 6) (gDd Fn))
theorem gL6_eq : gL6 = fFor (fItems (fSK (fVar 7))) (bName 17) (gDu F__law_step F__law_normal) := rfl
theorem gDa_ev {Fs : List U → Option U} {rr : D} {f X : List Cell} (e : Fs [.im rr, .im (bD f)] = some (.im (bD X))) (o0 o1 o3 o4 o5 o6 o7 o8 o9 o10 o11 o12 o13 o14 o15 o16 o18 o19 o20 o21 : Option U) : gDa Fs [o0, o1, some (.im rr), o3, o4, o5, o6, o7, o8, o9, o10, o11, o12, o13, o14, o15, o16, some (.im (bD f)), o18, o19, o20, o21] = some (.nx [o0, o1, some (.im rr), o3, o4, o5, o6, o7, o8, some (.im (bD X)), o10, o11, o12, some (.im (.num 1)), o14, o15, o16, some (.im (bD f)), o18, o19, o20, o21]) := by
  simp only [gDa, fRet, fU, fAnd, fOr, fB, f1, f2, f3, fSeq, fNext, fIfS, fIf, fC, fSet, fDrop, fItems, itemsU_b, itemsU_ls, itemsU_tup, fTup, fLst, fCons, fConsF, fNil, fCall, fCallD, fNot, fChain, fUnp, fPar, setAllU, fVar_0, fVar_s, Option.bind_some, Option.bind_none, Option.map_some, isB_bl, eqU_im, eqU_ls, eqU_bb, neU_im, neU_ls, neU_bl, ltU_num, gtU_num, leU_num, geU_num, addU_num, subU_num, negU_num, isN_tup, isN_none, notN_tup, notN_none, ims_nil, ims_im, okAl_im, okAl_bl, okAl_nil, okRt_im, okRt_bl, okRt_nil, mut_im, mut_bl, mut_ls, mut_dc, lenU_tup, lenU_ls, tupU_tup, listU_tup, listU_ls, intU_num, ixU_tup, ixU_ls, ixU_dc, cutU_c, ixc0, ixc1, ixc2, ixp0, ixp1, mkTup_2, mkTup_3, mkTup_nil, mkLst_nil, okArgs_im, okArgs_nil, atI_0, atI_1, atI_2, isi_num_int, isi_num_bool, isi_tup_tuple, isi_num_tuple, wipeU, List.set_cons_zero, List.set_cons_succ, List.length_cons, List.length_nil, List.map_cons, List.map_nil, if_true, if_false, if_pos, Bool.false_eq_true, Bool.not_true, Bool.not_false, Bool.true_or, Bool.false_or, List.isEmpty_nil, List.isEmpty_cons, Option.map_none, e]
theorem gDb_ev {Fs : List U → Option U} {rr : D} {X Y : List Cell} {t : Nat} (e : Fs [.im rr, .im (bD X)] = some (.im (bD Y))) (o0 o1 o3 o4 o5 o6 o7 o8 o10 o11 o12 o14 o15 o16 o17 o18 o19 o20 o21 : Option U) : gDb Fs [o0, o1, some (.im rr), o3, o4, o5, o6, o7, o8, some (.im (bD X)), o10, o11, o12, some (.im (.num (t : Int))), o14, o15, o16, o17, o18, o19, o20, o21] = some (.nx [o0, o1, some (.im rr), o3, o4, o5, o6, o7, o8, some (.im (bD Y)), o10, o11, o12, some (.im (.num ((t + 1 : Nat) : Int))), o14, o15, o16, o17, o18, o19, o20, o21]) := by
  have e2 : (t : Int) + 1 = ((t + 1 : Nat) : Int) := by omega
  simp only [gDb, fRet, fU, fAnd, fOr, fB, f1, f2, f3, fSeq, fNext, fIfS, fIf, fC, fSet, fDrop, fItems, itemsU_b, itemsU_ls, itemsU_tup, fTup, fLst, fCons, fConsF, fNil, fCall, fCallD, fNot, fChain, fUnp, fPar, setAllU, fVar_0, fVar_s, Option.bind_some, Option.bind_none, Option.map_some, isB_bl, eqU_im, eqU_ls, eqU_bb, neU_im, neU_ls, neU_bl, ltU_num, gtU_num, leU_num, geU_num, addU_num, subU_num, negU_num, isN_tup, isN_none, notN_tup, notN_none, ims_nil, ims_im, okAl_im, okAl_bl, okAl_nil, okRt_im, okRt_bl, okRt_nil, mut_im, mut_bl, mut_ls, mut_dc, lenU_tup, lenU_ls, tupU_tup, listU_tup, listU_ls, intU_num, ixU_tup, ixU_ls, ixU_dc, cutU_c, ixc0, ixc1, ixc2, ixp0, ixp1, mkTup_2, mkTup_3, mkTup_nil, mkLst_nil, okArgs_im, okArgs_nil, atI_0, atI_1, atI_2, isi_num_int, isi_num_bool, isi_tup_tuple, isi_num_tuple, wipeU, List.set_cons_zero, List.set_cons_succ, List.length_cons, List.length_nil, List.map_cons, List.map_nil, if_true, if_false, if_pos, Bool.false_eq_true, Bool.not_true, Bool.not_false, Bool.true_or, Bool.false_or, List.isEmpty_nil, List.isEmpty_cons, Option.map_none, e, e2]
theorem gDc_ev {Fn : List U → Option U} {X f : List Cell} (e : Fn [.im (bD X)] = some (.im (nrD X))) (o0 o1 o2 o3 o4 o5 o6 o7 o8 o10 o11 o12 o13 o14 o15 o16 o18 o19 o20 o21 : Option U) : gDc Fn [o0, o1, o2, o3, o4, o5, o6, o7, o8, some (.im (bD X)), o10, o11, o12, o13, o14, o15, o16, some (.im (bD f)), o18, o19, o20, o21] = some (!decide (norm X = f)) := by
  simp only [gDc, fRet, fU, fAnd, fOr, fB, f1, f2, f3, fSeq, fNext, fIfS, fIf, fC, fSet, fDrop, fItems, itemsU_b, itemsU_ls, itemsU_tup, fTup, fLst, fCons, fConsF, fNil, fCall, fCallD, fNot, fChain, fUnp, fPar, setAllU, fVar_0, fVar_s, Option.bind_some, Option.bind_none, Option.map_some, isB_bl, eqU_im, eqU_ls, eqU_bb, neU_im, neU_ls, neU_bl, ltU_num, gtU_num, leU_num, geU_num, addU_num, subU_num, negU_num, isN_tup, isN_none, notN_tup, notN_none, ims_nil, ims_im, okAl_im, okAl_bl, okAl_nil, okRt_im, okRt_bl, okRt_nil, mut_im, mut_bl, mut_ls, mut_dc, lenU_tup, lenU_ls, tupU_tup, listU_tup, listU_ls, intU_num, ixU_tup, ixU_ls, ixU_dc, cutU_c, ixc0, ixc1, ixc2, ixp0, ixp1, mkTup_2, mkTup_3, mkTup_nil, mkLst_nil, okArgs_im, okArgs_nil, atI_0, atI_1, atI_2, isi_num_int, isi_num_bool, isi_tup_tuple, isi_num_tuple, wipeU, List.set_cons_zero, List.set_cons_succ, List.length_cons, List.length_nil, List.map_cons, List.map_nil, if_true, if_false, if_pos, Bool.false_eq_true, Bool.not_true, Bool.not_false, Bool.true_or, Bool.false_or, List.isEmpty_nil, List.isEmpty_cons, Option.map_none, e, nr0, bD_dec]
theorem gDd_ev {Fn : List U → Option U} {X f : List Cell} {t : Nat} {ds : List D} (hl : ds.length ≤ 1000) (e : Fn [.im (bD X)] = some (.im (nrD X))) (o0 o1 o2 o3 o4 o5 o6 o7 o8 o10 o11 o12 o14 o15 o18 o19 o20 o21 : Option U) : gDd Fn [o0, o1, o2, o3, o4, o5, o6, o7, o8, some (.im (bD X)), o10, o11, o12, some (.im (.num (t : Int))), o14, o15, some (.ls ds), some (.im (bD f)), o18, o19, o20, o21] = some (.nx [o0, o1, o2, o3, o4, o5, o6, o7, o8, some (.im (bD X)), o10, o11, o12, some (.im (.num (t : Int))), o14, o15, some (.ls (ds ++ [pcOut f (some (t, corner X))])), some (.im (bD f)), o18, o19, o20, o21]) := by
  have q : (fTup (fCons (fVar 17) (fCons (fVar 13) (fCons (f2 ixU (fCallD Fn (fCons (fVar 9) fNil)) (fC (.im (.num 1)))) fNil)))) [o0, o1, o2, o3, o4, o5, o6, o7, o8, some (.im (bD X)), o10, o11, o12, some (.im (.num (t : Int))), o14, o15, some (.ls ds), some (.im (bD f)), o18, o19, o20, o21] = some (.im (piD f (t : Int) (corner X))) := by
    simp only [fRet, fU, fAnd, fOr, fB, f1, f2, f3, fSeq, fNext, fIfS, fIf, fC, fSet, fDrop, fItems, itemsU_b, itemsU_ls, itemsU_tup, fTup, fLst, fCons, fConsF, fNil, fCall, fCallD, fNot, fChain, fUnp, fPar, setAllU, fVar_0, fVar_s, Option.bind_some, Option.bind_none, Option.map_some, isB_bl, eqU_im, eqU_ls, eqU_bb, neU_im, neU_ls, neU_bl, ltU_num, gtU_num, leU_num, geU_num, addU_num, subU_num, negU_num, isN_tup, isN_none, notN_tup, notN_none, ims_nil, ims_im, okAl_im, okAl_bl, okAl_nil, okRt_im, okRt_bl, okRt_nil, mut_im, mut_bl, mut_ls, mut_dc, lenU_tup, lenU_ls, tupU_tup, listU_tup, listU_ls, intU_num, ixU_tup, ixU_ls, ixU_dc, cutU_c, ixc0, ixc1, ixc2, ixp0, ixp1, mkTup_2, mkTup_3, mkTup_nil, mkLst_nil, okArgs_im, okArgs_nil, atI_0, atI_1, atI_2, isi_num_int, isi_num_bool, isi_tup_tuple, isi_num_tuple, wipeU, List.set_cons_zero, List.set_cons_succ, List.length_cons, List.length_nil, List.map_cons, List.map_nil, if_true, if_false, if_pos, Bool.false_eq_true, Bool.not_true, Bool.not_false, Bool.true_or, Bool.false_or, List.isEmpty_nil, List.isEmpty_cons, Option.map_none, e, nr1, mkTup_pi]
  unfold gDd
  rw [app_ev (i := 16) (ds := ds) (d := piD f (t : Int) (corner X)) rfl q (by omega)]
  rfl
theorem while_ev {Fs Fn : List U → Option U} {r : Rule} {f : List Cell} {t : Nat} (h1 : ∀ s, 1 ≤ s → s < t → Fs [.im (rD r), .im (bD (stN r s f))] = some (.im (bD (stN r (s + 1) f)))) (h2 : ∀ s, 1 ≤ s → s ≤ t → Fn [.im (bD (stN r s f))] = some (.im (nrD (stN r s f))))
    (hs : ∀ s, 0 < s → s < t → norm (stN r s f) ≠ f) (ht : norm (stN r t f) = f) (o0 o1 o3 o4 o5 o6 o7 o8 o10 o11 o12 o14 o15 o16 o18 o19 o20 o21 : Option U) : ∀ (d s fuel : Nat), s + d = t → 1 ≤ s → d < fuel → fWhile (gDc Fn) (gDb Fs) fuel [o0, o1, some (.im (rD r)), o3, o4, o5, o6, o7, o8, some (.im (bD (stN r s f))), o10, o11, o12, some (.im (.num (s : Int))), o14, o15, o16, some (.im (bD f)), o18, o19, o20, o21] = some (.nx [o0, o1, some (.im (rD r)), o3, o4, o5, o6, o7, o8, some (.im (bD (stN r t f))), o10, o11, o12, some (.im (.num (t : Int))), o14, o15, o16, some (.im (bD f)), o18, o19, o20, o21]) := by
  intro d
  induction d with
  | zero =>
    intro s fuel e s1 hf
    obtain ⟨n, rfl⟩ : ∃ n, fuel = n + 1 := ⟨fuel - 1, by omega⟩
    have e : s = t := by omega
    subst e
    have q := gDc_ev (Fn := Fn) (X := stN r s f) (f := f) (h2 s s1 (Nat.le_refl _)) o0 o1 (some (.im (rD r))) o3 o4 o5 o6 o7 o8 o10 o11 o12 (some (.im (.num (s : Int)))) o14 o15 o16 o18 o19 o20 o21
    rw [decide_eq_true ht] at q
    unfold fWhile
    rw [q, Option.bind_some]
    rfl
  | succ d ih =>
    intro s fuel e s1 hf
    obtain ⟨n, rfl⟩ : ∃ n, fuel = n + 1 := ⟨fuel - 1, by omega⟩
    have q := gDc_ev (Fn := Fn) (X := stN r s f) (f := f) (h2 s s1 (by omega)) o0 o1 (some (.im (rD r))) o3 o4 o5 o6 o7 o8 o10 o11 o12 (some (.im (.num (s : Int)))) o14 o15 o16 o18 o19 o20 o21
    rw [decide_eq_false (hs s (by omega) (by omega))] at q
    have q2 := gDb_ev (Fs := Fs) (t := s) (h1 s s1 (by omega)) o0 o1 o3 o4 o5 o6 o7 o8 o10 o11 o12 o14 o15 o16 (some (.im (bD f))) o18 o19 o20 o21
    unfold fWhile
    rw [q, Option.bind_some, if_pos (show (!false) = true from rfl), q2, Option.bind_some]
    exact ih (s + 1) n (by omega) (by omega) (by omega)
theorem FormB.zero {r : Rule} {f : List Cell} (B : FormB r f) : minx f = 0 ∧ miny f = 0 := by
  have q := norm_corner B.good B.ne
  rw [B.norm] at q
  exact q
theorem gDu_ev {r : Rule} (ok : r.Ok) {f : List Cell} (B : FormB r f) {most : Nat} (hm : most ≤ 4) {x : Nat × Pl} (hx : rnd r f most 0 = some x) {ds : List D} (hl : ds.length ≤ 1000) (o0 o1 o3 o4 o5 o6 o7 o8 o9 o10 o11 o12 o13 o14 o15 o18 o19 o20 o21 : Option U) :
    ∃ o9' o13', gDu F__law_step F__law_normal [o0, o1, some (.im (rD r)), o3, o4, o5, o6, o7, o8, o9, o10, o11, o12, o13, o14, o15, some (.ls ds), some (.im (bD f)), o18, o19, o20, o21] = some (.nx [o0, o1, some (.im (rD r)), o3, o4, o5, o6, o7, o8, o9', o10, o11, o12, o13', o14, o15, some (.ls (ds ++ [pcOut f (rnd r f most 0)])), some (.im (bD f)), o18, o19, o20, o21]) := by
  obtain ⟨t, m⟩ := x
  obtain ⟨t0, t1, t2, t3, t4⟩ := rnd_some hx
  obtain ⟨z1, z2⟩ := B.zero
  have hc : corner (stN r t f) = m := by
    rw [t3, z1, z2]
    exact Prod.ext (Int.sub_zero _).symm (Int.sub_zero _).symm
  rw [B.norm] at t2 t4
  have h1 : ∀ s, s < t → F__law_step [.im (rD r), .im (bD (stN r s f))] = some (.im (bD (stN r (s + 1) f))) := fun s hs => by
    have L := B.lim s (by omega)
    have := L.len
    exact E__law_step ok L.good (by omega)
  have h2 : ∀ s, s ≤ t → F__law_normal [.im (bD (stN r s f))] = some (.im (nrD (stN r s f))) := fun s hs => by
    have L := B.lim s (by omega)
    have := L.len
    exact E__law_normal (b := stN r s f) (by omega)
  rw [hx, ← hc]
  refine ⟨some (.im (bD (stN r t f))), some (.im (.num (t : Int))), ?_⟩
  have q1 := gDa_ev (Fs := F__law_step) (rr := rD r) (f := f) (X := stN r 1 f) (h1 0 (by omega)) o0 o1 o3 o4 o5 o6 o7 o8 o9 o10 o11 o12 o13 o14 o15 (some (.ls ds)) o18 o19 o20 o21
  have q2 := while_ev (Fs := F__law_step) (Fn := F__law_normal) (r := r) (f := f) (t := t) (fun s _ hs => h1 s hs) (fun s _ hs => h2 s hs) t4 t2 o0 o1 o3 o4 o5 o6 o7 o8 o10 o11 o12 o14 o15 (some (.ls ds)) o18 o19 o20 o21 (t - 1) 1 6 (by omega) (by omega) (by omega)
  have q3 := gDd_ev (Fn := F__law_normal) (X := stN r t f) (f := f) (t := t) hl (h2 t (Nat.le_refl _)) o0 o1 (some (.im (rD r))) o3 o4 o5 o6 o7 o8 o10 o11 o12 o14 o15 o18 o19 o20 o21
  generalize F__law_step = Fs at *
  generalize F__law_normal = Fn at *
  unfold gDu fSeq
  rw [q1, Option.bind_some]
  dsimp only
  rw [show (NestedKey.num 1) = NestedKey.num ((1 : Nat) : Int) from rfl, q2, Option.bind_some]
  dsimp only
  exact q3
theorem gL6_ev {r : Rule} (ok : r.Ok) {w h : Nat} (hx : (w, h) ∈ boxes) {most : Nat} (hm : most ≤ 4) {kvs : List (D × W)} (F : DF isTm kvs (formsOf r w h most)) (hl : (formsOf r w h most).length ≤ 100) (o0 o1 o3 o4 o5 o6 o8 o9 o10 o11 o12 o13 o14 o15 o17 o18 o19 o20 o21 : Option U) :
    ∃ o9' o13' o17', gL6 [o0, o1, some (.im (rD r)), o3, o4, o5, o6, some (.dc kvs), o8, o9, o10, o11, o12, o13, o14, o15, some (.ls []), o17, o18, o19, o20, o21] = some (.nx [o0, o1, some (.im (rD r)), o3, o4, o5, o6, some (.dc kvs), o8, o9', o10, o11, o12, o13', o14, o15, some (.ls ((srtF (formsOf r w h most)).map fun f => pcOut f (rnd r f most 0))), o17', o18, o19, o20, o21]) := by
  have hn : ∀ f ∈ formsOf r w h most, f ≠ [] := fun f hf => (formsOf_is ok hx hm hf).1.ne
  obtain ⟨τ', l1, o9', o13', o17', rfl, _⟩ := loopV_ix (b := bName 17) (g := gDu F__law_step F__law_normal) bD (fun n (ds : List D) τ => ∃ o9 o13 o17, τ = [o0, o1, some (.im (rD r)), o3, o4, o5, o6, some (.dc kvs), o8, o9, o10, o11, o12, o13, o14, o15, some (.ls ds), o17, o18, o19, o20, o21] ∧ ds.length + n ≤ 100) (fun ds f => ds ++ [pcOut f (rnd r f most 0)]) (srtF (formsOf r w h most)) (fun f hf n ds τ ⟨o9, o13, o17, e, hd⟩ => by
    subst e
    obtain ⟨B, x, ex⟩ := formsOf_is ok hx hm (mem_srtF.mp hf)
    obtain ⟨o9', o13', e1⟩ := gDu_ev ok B hm ex (ds := ds) (by omega) o0 o1 o3 o4 o5 o6 (some (.dc kvs)) o8 o9 o10 o11 o12 o13 o14 o15 o18 o19 o20 o21
    refine ⟨_, _, rfl, e1, o9', o13', some (.im (bD f)), rfl, ?_⟩
    rw [List.length_append]
    show ds.length + 1 + n ≤ 100
    omega) 0 [] [o0, o1, some (.im (rD r)), o3, o4, o5, o6, some (.dc kvs), o8, o9, o10, o11, o12, o13, o14, o15, some (.ls []), o17, o18, o19, o20, o21] ⟨o9, o13, o17, rfl, by rw [srtF_len]; show 0 + ((formsOf r w h most).length + 0) ≤ 100; omega⟩
  have ef : ∀ (l : List (List Cell)) (ds : List D), l.foldl (fun ds f => ds ++ [pcOut f (rnd r f most 0)]) ds = ds ++ l.map fun f => pcOut f (rnd r f most 0) := by
    intro l
    induction l with
    | nil => intro ds; simp
    | cons a l ih => intro ds; rw [List.foldl_cons, ih, List.append_assoc]; rfl
  rw [ef, List.nil_append] at l1
  refine ⟨o9', o13', o17', ?_⟩
  have sk := sk_ev F hn (i := 7) (τ := [o0, o1, some (.im (rD r)), o3, o4, o5, o6, some (.dc kvs), o8, o9, o10, o11, o12, o13, o14, o15, some (.ls []), o17, o18, o19, o20, o21]) rfl
  rw [gL6_eq]
  generalize gDu F__law_step F__law_normal = gg at *
  unfold fFor
  rw [show fItems (fSK (fVar 7)) [o0, o1, some (.im (rD r)), o3, o4, o5, o6, some (.dc kvs), o8, o9, o10, o11, o12, o13, o14, o15, some (.ls []), o17, o18, o19, o20, o21] = some ((srtF (formsOf r w h most)).map bD) from by unfold fItems; rw [sk]; rfl, Option.bind_some]
  exact l1
end VL

set_option Elab.async false
set_option linter.all false
set_option maxRecDepth 100000
set_option maxHeartbeats 1000000
/-! VNh: the law's tests. -/
namespace VL
open PySem L2 PyProof.Rows

theorem keyF_all_len (r : Rule) (most : Nat) : ∀ (bs fs : List (List Cell)), (bs.foldl (keyF r most) fs).length ≤ fs.length + bs.length
  | [], fs => Nat.le_refl _
  | b :: bs, fs => by
    have h1 := keyF_all_len r most bs (keyF r most fs b)
    have h2 := keyF_len r most fs b
    rw [List.foldl_cons, List.length_cons]
    omega
theorem formsOf_len {r : Rule} {w h most : Nat} (hx : (w, h) ∈ boxes) : (formsOf r w h most).length ≤ 100 := by
  obtain ⟨b1, b2, b3, b4, b5⟩ := box_small hx
  obtain ⟨_, lb⟩ := E_boards_in (w := w) (h := h) b5 (by omega) (by omega)
  have q : (formsOf r w h most).length ≤ 0 + (boxB w h).length := keyF_all_len r most (boxB w h) []
  omega
/-! shallow data -/
theorem nt_p (n : Nat) (p : Pl) : NT (n + 2) (pD p) := .tup (by simp) fun d hd => by
  simp only [List.mem_cons, List.not_mem_nil, or_false] at hd
  rcases hd with rfl | rfl <;> exact .num
theorem nt_c (n : Nat) (c : Cell) : NT (n + 2) (cD c) := .tup (by simp) fun d hd => by
  simp only [List.mem_cons, List.not_mem_nil, or_false] at hd
  rcases hd with rfl | rfl | rfl <;> exact .num
theorem nt_b (n : Nat) {b : List Cell} (hl : b.length ≤ 10000) : NT (n + 3) (bD b) := .tup (by rw [List.length_map]; exact hl) fun d hd => by
  obtain ⟨c, _, rfl⟩ := List.mem_map.mp hd
  exact nt_c n c
theorem nt_stills {r : Rule} (ok : r.Ok) {w h : Nat} (hx : (w, h) ∈ boxes) : NT 6 (stillsD r w h) := by
  obtain ⟨b1, b2, b3, b4, b5⟩ := box_small hx
  obtain ⟨_, lb⟩ := E_boards_in (w := w) (h := h) b5 (by omega) (by omega)
  have l2 := List.length_filter_le (stillB r) (boxB w h)
  refine .tup (by rw [List.length_map, srtF_len]; omega) fun d hd => ?_
  obtain ⟨b, hb, rfl⟩ := List.mem_map.mp hd
  have hb := (List.mem_filter.mp (mem_srtF.mp hb)).1
  have l0 := ((boxB_is hx hb).lim ok (i := 0) (by omega)).len
  have l0 : b.length ≤ 3000 := l0
  exact nt_b 2 (by omega)
theorem nt_pieces {r : Rule} (ok : r.Ok) {w h : Nat} (hx : (w, h) ∈ boxes) {most : Nat} (hm : most ≤ 4) : NT 6 (piecesD r w h most) := by
  have lf := formsOf_len (r := r) (most := most) hx
  refine .tup (by rw [List.length_map, srtF_len]; omega) fun d hd => ?_
  obtain ⟨f, hf, rfl⟩ := List.mem_map.mp hd
  obtain ⟨B, x, ex⟩ := formsOf_is ok hx hm (mem_srtF.mp hf)
  obtain ⟨t, m⟩ := x
  have l0 := (B.lim 0 (by omega)).len
  have l0 : f.length ≤ 3000 := l0
  rw [ex]
  refine .tup (by simp) fun d hd => ?_
  simp only [List.mem_cons, List.not_mem_nil, or_false] at hd
  rcases hd with rfl | rfl | rfl
  · exact nt_b 1 (by omega)
  · exact .num
  · exact nt_p 2 m
theorem fm_len {p : Pc} (h : Kp p) : (fm r0 p).length ≤ 3000 := by
  have hne : phases r0 p.1 p.2.1 ≠ [] := by
    intro z
    have : (phases r0 p.1 p.2.1).length = p.2.1 := by unfold phases; simp
    have q1 := h.n1
    rw [z, List.length_nil] at this
    omega
  have q := (minF_is (formsL_ne hne)).2
  obtain ⟨c, hc, u, hu, e⟩ := formsL_mem.mp q
  obtain ⟨j, hj, rfl⟩ := List.mem_map.mp hc
  have hj := List.mem_range.mp hj
  have L := (h.lim (i := j) (by have := h.n8; omega)).len
  show (minF (formsL (phases r0 p.1 p.2.1))).length ≤ 3000
  rw [e, norm_len, turn_len]
  exact L
theorem cenF_len (r : Rule) : ∀ (ps : List Pc) (fs : List (List Cell)), (ps.foldl (fun fs p => insF fs (fm r p)) fs).length ≤ fs.length + ps.length
  | [], fs => Nat.le_refl _
  | p :: ps, fs => by
    have h1 := cenF_len r ps (insF fs (fm r p))
    have h2 := insF_len fs (fm r p)
    rw [List.foldl_cons, List.length_cons]
    omega
theorem nt_cen {ps : List Pc} (h : ∀ p ∈ ps, Kp p) (hl : ps.length ≤ 1000) : NT 6 (cenD (cenK r0 ps) (cenF r0 ps)) := by
  have lf : (cenF r0 ps).length ≤ 0 + ps.length := cenF_len r0 ps []
  refine .tup (by rw [List.length_map, srtF_len]; omega) fun d hd => ?_
  obtain ⟨f, hf, rfl⟩ := List.mem_map.mp hd
  rcases cenF_mem r0 ps [] f (mem_srtF.mp hf) with q | ⟨p, hp, rfl⟩
  · simp at q
  · have l0 := fm_len (h p hp)
    refine .tup (by simp) fun d hd => ?_
    simp only [List.mem_cons, List.not_mem_nil, or_false] at hd
    rcases hd with rfl | rfl
    · exact nt_b 1 (by omega)
    · exact .num
/-! the tests -/
def gT7 (A Fs : List U → Option U) : Sh → Option Res := (fIfS (fNot (fB (fCallD A (fCons (fCallD Fs (fCons (fVar 2) (fCons (fVar 4) (fCons (fVar 5) fNil)))) (fCons (fCall tupU (fCons (fCall srtU (fCons (fVar 6) fNil)) fNil)) fNil))))) (fRet [6, 7, 14, 16, 19] [] (fC (.bl false))) fNext)
def gT8 (A Fs : List U → Option U) : Sh → Option Res := (fIfS (fNot (fB (fCallD A (fCons (fCallD Fs (fCons (fVar 2) (fCons (fVar 4) (fCons (fVar 5) (fCons (fVar 3) fNil))))) (fCons (fCall tupU (fCons (fVar 16) fNil)) fNil))))) (fRet [6, 7, 14, 16, 19] [] (fC (.bl false))) fNext)
theorem gL7_eq : gL7 = gT7 (Fa 6) F_stills_in_box := rfl
theorem gL8_eq : gL8 = gT8 (Fa 6) F_pieces_in_box := rfl
theorem gT7_ev {A Fs : List U → Option U} {rr R x y : D} {L : List D} (e1 : Fs [.im rr, .im x, .im y] = some (.im R)) (e2 : ((srtU [.ls L]).bind fun u => some [u]).bind tupU = some (.im R)) (e3 : A [.im R, .im R] = some (.bl true)) (o0 o1 o3 o7 o8 o9 o10 o11 o12 o13 o14 o15 o16 o17 o18 o19 o20 o21 : Option U) : gT7 A Fs [o0, o1, some (.im rr), o3, some (.im x), some (.im y), some (.ls L), o7, o8, o9, o10, o11, o12, o13, o14, o15, o16, o17, o18, o19, o20, o21] = some (.nx [o0, o1, some (.im rr), o3, some (.im x), some (.im y), some (.ls L), o7, o8, o9, o10, o11, o12, o13, o14, o15, o16, o17, o18, o19, o20, o21]) := by
  simp only [gT7, fRet, fU, fAnd, fOr, fB, f1, f2, f3, fSeq, fNext, fIfS, fIf, fC, fSet, fDrop, fItems, itemsU_b, itemsU_ls, itemsU_tup, fTup, fLst, fCons, fConsF, fNil, fCall, fCallD, fNot, fChain, fUnp, fPar, setAllU, fVar_0, fVar_s, Option.bind_some, Option.bind_none, Option.map_some, isB_bl, eqU_im, eqU_ls, eqU_bb, neU_im, neU_ls, neU_bl, ltU_num, gtU_num, leU_num, geU_num, addU_num, subU_num, negU_num, isN_tup, isN_none, notN_tup, notN_none, ims_nil, ims_im, okAl_im, okAl_bl, okAl_nil, okRt_im, okRt_bl, okRt_nil, mut_im, mut_bl, mut_ls, mut_dc, lenU_tup, lenU_ls, tupU_tup, listU_tup, listU_ls, intU_num, ixU_tup, ixU_ls, ixU_dc, cutU_c, ixc0, ixc1, ixc2, ixp0, ixp1, mkTup_2, mkTup_3, mkTup_nil, mkLst_nil, okArgs_im, okArgs_nil, atI_0, atI_1, atI_2, isi_num_int, isi_num_bool, isi_tup_tuple, isi_num_tuple, wipeU, List.set_cons_zero, List.set_cons_succ, List.length_cons, List.length_nil, List.map_cons, List.map_nil, if_true, if_false, if_pos, Bool.false_eq_true, Bool.not_true, Bool.not_false, Bool.true_or, Bool.false_or, List.isEmpty_nil, List.isEmpty_cons, Option.map_none, e1, e2, e3]
theorem gT8_ev {A Fs : List U → Option U} {rr R x y z : D} {L : List D} (e1 : Fs [.im rr, .im x, .im y, .im z] = some (.im R)) (e2 : tupU [.ls L] = some (.im R)) (e3 : A [.im R, .im R] = some (.bl true)) (o0 o1 o6 o7 o8 o9 o10 o11 o12 o13 o14 o15 o17 o18 o19 o20 o21 : Option U) : gT8 A Fs [o0, o1, some (.im rr), some (.im z), some (.im x), some (.im y), o6, o7, o8, o9, o10, o11, o12, o13, o14, o15, some (.ls L), o17, o18, o19, o20, o21] = some (.nx [o0, o1, some (.im rr), some (.im z), some (.im x), some (.im y), o6, o7, o8, o9, o10, o11, o12, o13, o14, o15, some (.ls L), o17, o18, o19, o20, o21]) := by
  simp only [gT8, fRet, fU, fAnd, fOr, fB, f1, f2, f3, fSeq, fNext, fIfS, fIf, fC, fSet, fDrop, fItems, itemsU_b, itemsU_ls, itemsU_tup, fTup, fLst, fCons, fConsF, fNil, fCall, fCallD, fNot, fChain, fUnp, fPar, setAllU, fVar_0, fVar_s, Option.bind_some, Option.bind_none, Option.map_some, isB_bl, eqU_im, eqU_ls, eqU_bb, neU_im, neU_ls, neU_bl, ltU_num, gtU_num, leU_num, geU_num, addU_num, subU_num, negU_num, isN_tup, isN_none, notN_tup, notN_none, ims_nil, ims_im, okAl_im, okAl_bl, okAl_nil, okRt_im, okRt_bl, okRt_nil, mut_im, mut_bl, mut_ls, mut_dc, lenU_tup, lenU_ls, tupU_tup, listU_tup, listU_ls, intU_num, ixU_tup, ixU_ls, ixU_dc, cutU_c, ixc0, ixc1, ixc2, ixp0, ixp1, mkTup_2, mkTup_3, mkTup_nil, mkLst_nil, okArgs_im, okArgs_nil, atI_0, atI_1, atI_2, isi_num_int, isi_num_bool, isi_tup_tuple, isi_num_tuple, wipeU, List.set_cons_zero, List.set_cons_succ, List.length_cons, List.length_nil, List.map_cons, List.map_nil, if_true, if_false, if_pos, Bool.false_eq_true, Bool.not_true, Bool.not_false, Bool.true_or, Bool.false_or, List.isEmpty_nil, List.isEmpty_cons, Option.map_none, e1, e2, e3]
theorem gL7_ev {r : Rule} (ok : r.Ok) {w h : Nat} (hx : (w, h) ∈ boxes) {most : Nat} (o0 o1 o7 o8 o9 o10 o11 o12 o13 o14 o15 o16 o17 o18 o19 o20 o21 : Option U) : gL7 [o0, o1, some (.im (rD r)), some (.im (.num (most : Int))), some (.im (.num (w : Int))), some (.im (.num (h : Int))), some (.ls (((boxB w h).filter (stillB r)).map bD)), o7, o8, o9, o10, o11, o12, o13, o14, o15, o16, o17, o18, o19, o20, o21] = some (.nx [o0, o1, some (.im (rD r)), some (.im (.num (most : Int))), some (.im (.num (w : Int))), some (.im (.num (h : Int))), some (.ls (((boxB w h).filter (stillB r)).map bD)), o7, o8, o9, o10, o11, o12, o13, o14, o15, o16, o17, o18, o19, o20, o21]) := by
  rw [gL7_eq]
  exact gT7_ev (E_stills_in_box ok hx) (Sd (r := r) hx) (alike_ev (nt_stills ok hx)) o0 o1 (some (.im (.num (most : Int)))) o7 o8 o9 o10 o11 o12 o13 o14 o15 o16 o17 o18 o19 o20 o21
theorem gL8_ev {r : Rule} (ok : r.Ok) {w h : Nat} (hx : (w, h) ∈ boxes) {most : Nat} (m1 : 1 ≤ most) (hm : most ≤ 4) (o0 o1 o6 o7 o8 o9 o10 o11 o12 o13 o14 o15 o17 o18 o19 o20 o21 : Option U) : gL8 [o0, o1, some (.im (rD r)), some (.im (.num (most : Int))), some (.im (.num (w : Int))), some (.im (.num (h : Int))), o6, o7, o8, o9, o10, o11, o12, o13, o14, o15, some (.ls ((srtF (formsOf r w h most)).map fun f => pcOut f (rnd r f most 0))), o17, o18, o19, o20, o21] = some (.nx [o0, o1, some (.im (rD r)), some (.im (.num (most : Int))), some (.im (.num (w : Int))), some (.im (.num (h : Int))), o6, o7, o8, o9, o10, o11, o12, o13, o14, o15, some (.ls ((srtF (formsOf r w h most)).map fun f => pcOut f (rnd r f most 0))), o17, o18, o19, o20, o21]) := by
  have et : tupU [.ls ((srtF (formsOf r w h most)).map fun f => pcOut f (rnd r f most 0))] = some (.im (piecesD r w h most)) := tupU_ok fun d hd => by
    obtain ⟨f, _, rfl⟩ := List.mem_map.mp hd
    have := depth_pc f (rnd r f most 0)
    omega
  rw [gL8_eq]
  exact gT8_ev (E_pieces_in_box ok hx m1 hm) et (alike_ev (nt_pieces ok hx hm)) o0 o1 o6 o7 o8 o9 o10 o11 o12 o13 o14 o15 o17 o18 o19 o20 o21
/-! the census -/
def gRr : Sh → Option U := (fTup (fCons (fTup (fCons (fC (.im (.num 3))) fNil)) (fCons (fTup (fCons (fC (.im (.num 2))) (fCons (fC (.im (.num 3))) fNil))) (fCons (fC (.im (.num 2))) fNil))))
theorem gRr_ev (τ : Sh) : gRr τ = some (.im (rD r0)) := by
  have e1 : mkTup [.num 3] = some (.im (nD [3])) := mkTup_ok (ds := [.num 3]) (fun d hd => by
    simp only [List.mem_cons, List.not_mem_nil, or_false] at hd
    subst hd
    simp [NestedKey.depth]) (by decide)
  have e2 : mkTup [.num 2, .num 3] = some (.im (nD [2, 3])) := mkTup_ok (ds := [.num 2, .num 3]) (fun d hd => by
    simp only [List.mem_cons, List.not_mem_nil, or_false] at hd
    rcases hd with rfl | rfl <;> simp [NestedKey.depth]) (by decide)
  have e3 : mkTup [nD [3], nD [2, 3], .num 2] = some (.im (rD r0)) := mkTup_ok (ds := [nD [3], nD [2, 3], .num 2]) (fun d hd => by
    simp only [List.mem_cons, List.not_mem_nil, or_false] at hd
    rcases hd with rfl | rfl | rfl <;> simp [nD, NestedKey.depth, NestedKey.depthAll]) (by decide)
  simp only [gRr, fTup, fCons, fC, fNil, Option.bind_some, ims_im, ims_nil, Option.map_some, e1, e2, e3]
def gCo (F : List U → Option U) : Sh → Option Res := (fSeq (fSet 17 [] (fCallD F (fCons gRr (fCons (fVar 20) fNil))))
    (fSto 19 (f2 addU (f3 getU (fVar 19) (fVar 17) (fC (.im (.num 0)))) (fC (.im (.num 1)))) (fVar 17)))
theorem gL10_eq : gL10 = fFor (fItems (fVar 18)) (bName 20) (gCo F_form_of) := rfl
theorem gCo_ev {F : List U → Option U} {p : D} {f : List Cell} {kvs : List (D × W)} {fs : List (List Cell)} (h : DF isCt kvs fs) (hl : fs.length ≤ 100000) (e : F [.im (rD r0), .im p] = some (.im (bD f))) (o0 o1 o2 o3 o4 o5 o6 o7 o8 o9 o10 o11 o12 o13 o14 o15 o16 o17 o18 o21 : Option U) : gCo F [o0, o1, o2, o3, o4, o5, o6, o7, o8, o9, o10, o11, o12, o13, o14, o15, o16, o17, o18, some (.dc kvs), some (.im p), o21] = some (.nx [o0, o1, o2, o3, o4, o5, o6, o7, o8, o9, o10, o11, o12, o13, o14, o15, o16, some (.im (bD f)), o18, some (.dc (cen kvs f)), some (.im p), o21]) := by
  have s1 : fSet 17 [] (fCallD F (fCons gRr (fCons (fVar 20) fNil))) [o0, o1, o2, o3, o4, o5, o6, o7, o8, o9, o10, o11, o12, o13, o14, o15, o16, o17, o18, some (.dc kvs), some (.im p), o21] = some (.nx [o0, o1, o2, o3, o4, o5, o6, o7, o8, o9, o10, o11, o12, o13, o14, o15, o16, some (.im (bD f)), o18, some (.dc kvs), some (.im p), o21]) := by
    simp only [fRet, fU, fAnd, fOr, fB, f1, f2, f3, fSeq, fNext, fIfS, fIf, fC, fSet, fDrop, fItems, itemsU_b, itemsU_ls, itemsU_tup, fTup, fLst, fCons, fConsF, fNil, fCall, fCallD, fNot, fChain, fUnp, fPar, setAllU, fVar_0, fVar_s, Option.bind_some, Option.bind_none, Option.map_some, isB_bl, eqU_im, eqU_ls, eqU_bb, neU_im, neU_ls, neU_bl, ltU_num, gtU_num, leU_num, geU_num, addU_num, subU_num, negU_num, isN_tup, isN_none, notN_tup, notN_none, ims_nil, ims_im, okAl_im, okAl_bl, okAl_nil, okRt_im, okRt_bl, okRt_nil, mut_im, mut_bl, mut_ls, mut_dc, lenU_tup, lenU_ls, tupU_tup, listU_tup, listU_ls, intU_num, ixU_tup, ixU_ls, ixU_dc, cutU_c, ixc0, ixc1, ixc2, ixp0, ixp1, mkTup_2, mkTup_3, mkTup_nil, mkLst_nil, okArgs_im, okArgs_nil, atI_0, atI_1, atI_2, isi_num_int, isi_num_bool, isi_tup_tuple, isi_num_tuple, wipeU, List.set_cons_zero, List.set_cons_succ, List.length_cons, List.length_nil, List.map_cons, List.map_nil, if_true, if_false, if_pos, Bool.false_eq_true, Bool.not_true, Bool.not_false, Bool.true_or, Bool.false_or, List.isEmpty_nil, List.isEmpty_cons, Option.map_none, gRr_ev, e]
  unfold gCo fSeq
  rw [s1, Option.bind_some]
  dsimp only
  rw [cen_ev h hl (f := f) rfl rfl]
  rfl
theorem gL10_ev {ps : List Pc} (hp : ∀ p ∈ ps, Kp p) (hl : ps.length ≤ 1000) (o0 o1 o2 o3 o4 o5 o6 o7 o8 o9 o10 o11 o12 o13 o14 o15 o16 o17 o20 o21 : Option U) : ∃ o17' o20', gL10 [o0, o1, o2, o3, o4, o5, o6, o7, o8, o9, o10, o11, o12, o13, o14, o15, o16, o17, some (.ls (ps.map pcD)), some (.dc []), o20, o21] = some (.nx [o0, o1, o2, o3, o4, o5, o6, o7, o8, o9, o10, o11, o12, o13, o14, o15, o16, o17', some (.ls (ps.map pcD)), some (.dc (cenK r0 ps)), o20', o21]) := by
  obtain ⟨τ', l1, o17', o20', rfl, _, l2⟩ := loopV_ix (S := List (D × W) × List (List Cell)) (b := bName 20) (g := gCo F_form_of) pcD (fun n x τ => ∃ o17 o20, τ = [o0, o1, o2, o3, o4, o5, o6, o7, o8, o9, o10, o11, o12, o13, o14, o15, o16, o17, some (.ls (ps.map pcD)), some (.dc x.1), o20, o21] ∧ DF isCt x.1 x.2 ∧ x.2.length + n ≤ 1000) (fun x p => (cen x.1 (fm r0 p), insF x.2 (fm r0 p))) ps (fun p hpp n x τ ⟨o17, o20, e, F, h⟩ => by
    subst e
    refine ⟨_, _, rfl, gCo_ev F (by omega) (E_form_of (hp p hpp)) o0 o1 o2 o3 o4 o5 o6 o7 o8 o9 o10 o11 o12 o13 o14 o15 o16 o17 (some (.ls (ps.map pcD))) o21, some (.im (bD (fm r0 p))), some (.im (pcD p)), rfl, F.cen _, ?_⟩
    have := insF_len x.2 (fm r0 p)
    show (insF x.2 (fm r0 p)).length + n ≤ 1000
    omega) 0 ([], []) [o0, o1, o2, o3, o4, o5, o6, o7, o8, o9, o10, o11, o12, o13, o14, o15, o16, o17, some (.ls (ps.map pcD)), some (.dc []), o20, o21] ⟨o17, o20, rfl, DF.nil, by show 0 + (ps.length + 0) ≤ 1000; omega⟩
  have split : ∀ (ps : List Pc) (a : List (D × W)) (b : List (List Cell)), ps.foldl (fun x p => (cen x.1 (fm r0 p), insF x.2 (fm r0 p))) (a, b) = (ps.foldl (fun kvs p => cen kvs (fm r0 p)) a, ps.foldl (fun fs p => insF fs (fm r0 p)) b) := by
    intro ps
    induction ps with
    | nil => intro a b; rfl
    | cons p ps ih => intro a b; rw [List.foldl_cons, ih]; rfl
  rw [split] at l1
  refine ⟨o17', o20', ?_⟩
  rw [gL10_eq]
  generalize gCo F_form_of = gg at *
  unfold fFor
  rw [show fItems (fVar 18) [o0, o1, o2, o3, o4, o5, o6, o7, o8, o9, o10, o11, o12, o13, o14, o15, o16, o17, some (.ls (ps.map pcD)), some (.dc []), o20, o21] = some (ps.map pcD) from rfl, Option.bind_some]
  exact l1
def gT11 (A Fs : List U → Option U) (lc : Sh → Option U) : Sh → Option Res := (fRet [6, 7, 14, 16, 19] [] (fCallD A (fCons (fCallD Fs (fCons gRr (fCons (fCall tupU (fCons (fVar 18) fNil)) fNil))) (fCons lc fNil))))
def lc11 : Sh → Option U := (fCall tupU (fCons (fLc (fItems (fSK (fVar 19))) (bName 17) fYes (fTup (fCons (fVar 17) (fCons (f2 ixU (fVar 19) (fVar 17)) fNil))) [17]) fNil))
theorem gL11_eq : gL11 = gT11 (Fa 6) F_census lc11 := rfl
theorem gT11_ev {A Fs : List U → Option U} {lc : Sh → Option U} {R T : D} {L : List D} {τ : Sh} (h18 : fVar 18 τ = some (.ls L)) (e0 : tupU [.ls L] = some (.im T)) (e1 : Fs [.im (rD r0), .im T] = some (.im R)) (e2 : lc τ = some (.im R)) (e3 : A [.im R, .im R] = some (.bl true)) : gT11 A Fs lc τ = some (.rt (.bl true)) := by
  simp only [gT11, fRet, fCallD, fCall, fCons, fNil, h18, gRr_ev, Option.bind_some, e0, okArgs_im, okArgs_nil, if_true, e1, e2, e3, okRt_bl]
theorem depth_pcD (p : Pc) : (pcD p).depth ≤ 7 := by
  have e : NestedKey.depthAll [bD p.1, .num (p.2.1 : Int), pD p.2.2] ≤ 3 := depthAll_le fun x hx => by
    have := depth_bD p.1
    have := depth_pD p.2.2
    simp only [List.mem_cons, List.not_mem_nil, or_false] at hx
    rcases hx with rfl | rfl | rfl
    · omega
    · simp [NestedKey.depth]
    · omega
  have := depth_tup e
  exact Nat.le_trans this (by decide)
theorem gL11_ev {ps : List Pc} (hp : ∀ p ∈ ps, Kp p) (hl : ps.length ≤ 1000) (o0 o1 o2 o3 o4 o5 o6 o7 o8 o9 o10 o11 o12 o13 o14 o15 o16 o17 o20 o21 : Option U) : gL11 [o0, o1, o2, o3, o4, o5, o6, o7, o8, o9, o10, o11, o12, o13, o14, o15, o16, o17, some (.ls (ps.map pcD)), some (.dc (cenK r0 ps)), o20, o21] = some (.rt (.bl true)) := by
  have D0 : DF isCt (cenK r0 ps) (cenF r0 ps) := cen_all r0 ps [] [] DF.nil
  have lf : (cenF r0 ps).length ≤ 0 + ps.length := cenF_len r0 ps []
  have hn : ∀ f ∈ cenF r0 ps, f ≠ [] := fun f hf => by
    rcases cenF_mem r0 ps [] f hf with q | ⟨p, hpp, rfl⟩
    · simp at q
    · exact fm_ne (hp p hpp).ok
  have e2 : lc11 [o0, o1, o2, o3, o4, o5, o6, o7, o8, o9, o10, o11, o12, o13, o14, o15, o16, o17, some (.ls (ps.map pcD)), some (.dc (cenK r0 ps)), o20, o21] = some (.im (cenD (cenK r0 ps) (cenF r0 ps))) := cenD_ev (i := 19) (j := 17) D0 hn (by omega) rfl (fun _ => rfl) (fun _ => rfl)
  have e0 : tupU [.ls (ps.map pcD)] = some (.im (psD ps)) := tupU_ok fun d hd => by
    obtain ⟨p, _, rfl⟩ := List.mem_map.mp hd
    exact depth_pcD p
  rw [gL11_eq]
  exact gT11_ev rfl e0 (E_census hp hl) e2 (alike_ev (nt_cen hp hl))
end VL

set_option Elab.async false
set_option linter.all false
set_option maxRecDepth 100000
set_option maxHeartbeats 1000000
/-! VNi: the law. -/
namespace VL
open PySem L2 PyProof.Rows

theorem rel_nil {P : Program} {w : World} {K : PySem.W.Frag} {H : Hp} : ShRel P w K H [] [] := ⟨rfl, fun i u e => by simp at e⟩
theorem rel_none {P : Program} {w : World} {K : PySem.W.Frag} {H : Hp} {x : Option V} {σ : L2.St} {τ : Sh} (h : ShRel P w K H σ τ) : ShRel P w K H (x :: σ) (none :: τ) := ⟨by rw [List.length_cons, List.length_cons, h.len], fun i u e => by
  cases i with
  | zero => simp at e
  | succ i =>
    obtain ⟨v, h1, h2⟩ := h.get i u (by simpa using e)
    exact ⟨v, by simpa using h1, h2⟩⟩
theorem rel_some {P : Program} {w : World} {K : PySem.W.Frag} {H : Hp} {v : V} {u : U} {σ : L2.St} {τ : Sh} (hv : UV P w K H v u) (h : ShRel P w K H σ τ) : ShRel P w K H (some v :: σ) (some u :: τ) := ⟨by rw [List.length_cons, List.length_cons, h.len], fun i x e => by
  cases i with
  | zero =>
    have e : x = u := by simpa using e.symm
    subst e
    exact ⟨v, rfl, hv⟩
  | succ i =>
    obtain ⟨v, h1, h2⟩ := h.get i x (by simpa using e)
    exact ⟨v, by simpa using h1, h2⟩⟩
def calm (τ : Sh) : Prop := ∀ (i : Nat) (u : U), τ[i]? = some (some u) → mutU u = false
theorem calm_nil : calm [] := fun i u e => by simp at e
theorem calm_none {τ : Sh} (h : calm τ) : calm (none :: τ) := fun i u e => by
  cases i with
  | zero => simp at e
  | succ i => exact h i u (by simpa using e)
theorem calm_some {τ : Sh} {u : U} (q : mutU u = false) (h : calm τ) : calm (some u :: τ) := fun i x e => by
  cases i with
  | zero =>
    have e : x = u := by simpa using e.symm
    subst e
    exact q
  | succ i => exact h i x (by simpa using e)
theorem calm_rep (n : Nat) : calm (List.replicate n none) := fun i u e => by
  rw [List.getElem?_replicate] at e
  split at e <;> cases e
theorem vi_calm {P : Program} {w : World} {K : PySem.W.Frag} {O : List Nat} {H : Hp} {σ : L2.St} {τ : Sh} (h : ShRel P w K H σ τ) (c : calm τ) : VI P w K O H H σ τ :=
  ⟨h.len, Same.refl H, h, fun i j u u' v hij e1 e2 m1 m2 _ _ => (by rw [c i u e1] at m1; cases m1), fun i u a hi e m _ => (by rw [c i u e] at m; cases m)⟩
def PvP (K : PySem.W.Frag) (H0 : Hp) (sc a D : Addr) (i : Nat) (H : Hp) : Prop := ∃ (ps : List Pc) (xs : List V), H D = some (.lst xs) ∧ IVs K H xs (ps.map pcD) ∧ (∀ p ∈ ps, Kp p) ∧ ps.length ≤ i ∧ RowAt K sc H a ∧ Keep a H0 H
theorem RowAt.ne {K : PySem.W.Frag} {H : Hp} {sc a D : Addr} (h : RowAt K sc H a) (d : H D = none) : D ≠ a := by
  rintro rfl
  obtain ⟨_, _, _, _, e, _⟩ := h
  rw [d] at e
  cases e
/-- the script's list is another one than D, or an old one -/
def Off (K : PySem.W.Frag) (sc D : Addr) : Prop := sc ≠ D ∨ ∃ (xs : List Int) (o : Obj) (its : Array Value) (n : Nat), K.lookup sc = some o ∧ o.cls = .type "list" ∧ o.dict = none ∧ o.data = .seq its n ∧ its.size ≤ sizeLine ∧ Vals (xs.map V.int) its.toList
theorem RowAt.off {K : PySem.W.Frag} {H : Hp} {sc a D : Addr} (h : RowAt K sc H a) (d : H D = none) : Off K sc D := by
  obtain ⟨xs, i, sd, r, e, ne, sq, hi⟩ := h
  rcases sq with q | q
  · refine .inl ?_
    rintro rfl
    rcases q with q | ⟨o, q⟩
    · rw [d] at q
      cases q
    · rw [d] at q
      cases q
  · exact .inr ⟨xs, q⟩
theorem RowAt.upd {K : PySem.W.Frag} {H : Hp} {sc a D : Addr} {o : HO} (h : RowAt K sc H a) (n : D ≠ a) (t : NoTup (H D)) (f : Off K sc D) : RowAt K sc (L2.upd H D o) a := by
  obtain ⟨xs, i, sd, r, e, ne, sq, hi⟩ := h
  rcases f with q | ⟨ys, q⟩
  · exact ⟨xs, i, sd, r, by rw [upd_ne (Ne.symm n)]; exact e, ne, sql_keep sq (.inl q) t, hi⟩
  · exact ⟨ys, i, sd, r, by rw [upd_ne (Ne.symm n)]; exact e, .inr q, .inr q, hi⟩
theorem IVs.snoc {K : PySem.W.Frag} {H : Hp} {xs : List V} {ds : List D} {v : V} {d : D} (h : IVs K H xs ds) (q : IV K H v d) : IVs K H (xs ++ [v]) (ds ++ [d]) := h.append (.cons q .nil)
theorem PvP.add {K : PySem.W.Frag} {H0 H H' : Hp} {sc a D : Addr} {i : Nat} (p : PvP K H0 sc a D i H) (nD : D ≠ a) (h0 : H0 D = none) (f : Off K sc D) {pc : Pc} (hp : Kp pc) {v : V} (iv : IV K H' v (pcD pc)) (R : RowAt K sc H' a) (k : Keep a H H') (hi : i ≤ 1000) : ∃ acc, H' D = some (.lst acc) ∧ acc.length < sizeLine ∧ PvP K H0 sc a D (i + 1) (L2.upd H' D (.lst (acc ++ [v]))) := by
  obtain ⟨ps, xs, h1, h2, h3, h4, h5, h6⟩ := p
  have h1' := k D _ nD h1
  have nt : NoTup (H' D) := by rw [h1']; trivial
  have l2 := h2.length
  rw [List.length_map] at l2
  refine ⟨xs, h1', lt_size (by omega), ps ++ [pc], xs ++ [v], upd_same, ?_, ?_, ?_, R.upd nD nt f, ?_⟩
  · rw [List.map_append]
    exact ((h2.keep (k.tk h5.nt)).snoc iv).keep (TKeep.upd nt)
  · intro x hx
    rcases List.mem_append.mp hx with hx | hx
    · exact h3 x hx
    · rw [List.mem_singleton] at hx
      subst hx
      exact hp
  · rw [List.length_append]
    show ps.length + 1 ≤ i + 1
    omega
  · intro b o nb e
    have nbD : b ≠ D := by
      rintro rfl
      rw [h0] at e
      cases e
    rw [upd_ne nbD]
    exact k b o nb (h6 b o nb e)
def boxD (x : Nat × Nat) : D := pD ((x.1 : Int), (x.2 : Int))
def spLaw (K : PySem.W.Frag) : Sp := fun vs H Q _ => ∃ (a : Addr) (ns : List Int), vs = [.ref a] ∧ SqL K H a (ns.map V.int) ∧ ∀ H', Q (.bl true) H'
section
variable {P : Program} {w : World} {K : PySem.W.Frag} {mg : Str → Option Value} {base : Heap}
theorem law_ok (C : Cs K mg) {f : Addr} {fd : FuncData} (F : Fun K "law" "law" st_law f fd) : FnOk P w K mg base CX0 9 f fd ["_law_script"] (spLaw K) := by
  refine F.ok sc_law (fun vs H Q E h => ?_) (fun cdv A outer s H vs Q E hr h => ?_)
  · obtain ⟨a, ns, rfl, _⟩ := h
    rfl
  · obtain ⟨a, ns, rfl, hS, k⟩ := h
    have hu := hr.units
    refine ⟨_, pss_cons (ps_set (i := 1) sc_law.nd rfl (.inr rfl) (pe_lst (pa_cons (pv 0) (pa_cons pe_int (pa_cons pe_int (pa_cons pe_int pa_nil))))))
      (pss_cons (ps_par (i := 2) (j := 3) rfl sc_law.nd rfl rfl (by decide) rfl rfl (pa_cons (pe_callDS (d__law_some_rule C) (hr.mono (by decide)) rfl (pa_cons (pv 1) pa_nil)) (pa_cons (pe_op op_add pe_int (pe_callDS (d__law_taken C) (hr.mono (by decide)) rfl (pa_cons (pv 1) (pa_cons pe_int pa_nil)))) pa_nil)) (by rfl))
      (pss_cons (ps_asg (pe_callDS (d__law_pick C) (hr.mono (by decide)) rfl (pa_cons (pv 1) (pa_cons (pe_lst (pa_cons (pe_tup (pa_cons pe_int (pa_cons pe_int pa_nil))) (pa_cons (pe_tup (pa_cons pe_int (pa_cons pe_int pa_nil))) (pa_cons (pe_tup (pa_cons pe_int (pa_cons pe_int pa_nil))) (pa_cons (pe_tup (pa_cons pe_int (pa_cons pe_int pa_nil))) (pa_cons (pe_tup (pa_cons pe_int (pa_cons pe_int pa_nil))) (pa_cons (pe_tup (pa_cons pe_int (pa_cons pe_int pa_nil))) pa_nil))))))) pa_nil)))
        (pg_tup rfl (pgs_cons (pg_name (i := 4) sc_law.nd rfl (.inl rfl)) (pgs_cons (pg_name (i := 5) sc_law.nd rfl (.inl rfl)) pgs_nil))))
      (pss_cons (dL3 C f cdv A outer s H E hr)
      (pss_cons (dL4 C f cdv A outer s H E hr)
      (pss_cons (dL5 C f cdv A outer s H E hr)
      (pss_cons (dL6 C f cdv A outer s H E hr)
      (pss_cons (dL7 C f cdv A outer s H E hr)
      (pss_cons (dL8 C f cdv A outer s H E hr)
      (pss_cons (ps_asg (pe_tup (pa_cons (pe_lc (g := gName 21) (te := _) rfl sc_law.nd (pi_range1 rfl C.b_range (pa_cons (pe_callDS (d__law_taken C) (hr.mono (by decide)) rfl (pa_cons (pv 1) (pa_cons pe_int pa_nil))) pa_nil)) (blkOk_by (N := n_law) (sc := defScope st_law) (own := [("_law_k", 21)]) (by decide +kernel)) (fun _ _ _ _ _ => pg_name (i := 21) sc_law.nd rfl (.inl rfl)) (fun _ _ _ _ _ => pts_nil) (fun _ _ _ _ _ => pe_callDS (d__law_some_piece C) (hr.mono (by decide)) rfl (pa_cons (pv 1) (pa_cons pe_int pa_nil)))) (pa_cons ev_dnew pa_nil)))
        (pg_tup rfl (pgs_cons (pg_name (i := 18) sc_law.nd rfl (.inl rfl)) (pgs_cons (pg_name (i := 19) sc_law.nd rfl (.inr rfl)) pgs_nil))))
      (pss_cons (dL10 C f cdv A outer s H E hr)
      (pss_one (dL11 C f cdv A outer s H E hr)))))))))))), ?_⟩
    -- the row
    refine ⟨_, rfl, (show 4 ≤ sizeLine by decide), fun row nrow => ?_⟩
    have s0 := laid_same (o := .lst [.ref a, .int 0, .int 10816, .int 0]) nrow
    have hne : NeK K a row (ns.map V.int) := by
      rcases hS with q | q
      · refine .inl ?_
        rintro rfl
        rcases q with q | ⟨o, q⟩
        · rw [nrow] at q
          cases q
        · rw [nrow] at q
          cases q
      · exact .inr q
    have R0 : RowAt K a (upd H row (.lst [.ref a, .int 0, .int 10816, .int 0])) row := ⟨ns, 0, 10816, 0, upd_same, hne, Same.seq s0 hS, Int.le_refl _⟩
    -- the rule, how many turns
    refine ⟨_, rfl, a, row, rfl, R0, fun r v1 H1 ok iv1 R1 k1 => ?_⟩
    refine ⟨_, rfl, a, row, 4, rfl, R1, by decide, by decide, fun m H2 m0 m1 R2 k2 => ?_⟩
    refine ⟨_, _, rfl, rfl, _, _, rfl, ?_⟩
    -- the box
    refine ⟨_, rfl, (show 2 ≤ sizeLine by decide), fun p1 n1 => ⟨(show 2 ≤ sizeLine by decide), fun p2 n2 => ⟨(show 2 ≤ sizeLine by decide), fun p3 n3 => ⟨(show 2 ≤ sizeLine by decide), fun p4 n4 => ⟨(show 2 ≤ sizeLine by decide), fun p5 n5 => ⟨(show 2 ≤ sizeLine by decide), fun p6 n6 => ⟨(show 6 ≤ sizeLine by decide), fun q nq => ?_⟩⟩⟩⟩⟩⟩⟩
    have t1 := laid_same (o := .tup [.int 1, .int 1]) n1
    have t2 := laid_same (o := .tup [.int 2, .int 2]) n2
    have t3 := laid_same (o := .tup [.int 3, .int 1]) n3
    have t4 := laid_same (o := .tup [.int 1, .int 4]) n4
    have t5 := laid_same (o := .tup [.int 2, .int 3]) n5
    have t6 := laid_same (o := .tup [.int 3, .int 2]) n6
    have tq := laid_same (o := .lst [.ref p1, .ref p2, .ref p3, .ref p4, .ref p5, .ref p6]) nq
    have R3 := (((((R2.same t1).same t2).same t3).same t4).same t5).same t6
    have nqr := R3.ne nq
    have R4 := R3.same tq
    refine ⟨a, row, q, _, boxes.map boxD, rfl, R4, nqr, upd_same, .cons (((((((iv_nums (ns := [1, 1]) upd_same).keep (Same.tk t2)).keep (Same.tk t3)).keep (Same.tk t4)).keep (Same.tk t5)).keep (Same.tk t6)).keep (Same.tk tq)) (.cons ((((((iv_nums (ns := [2, 2]) upd_same).keep (Same.tk t3)).keep (Same.tk t4)).keep (Same.tk t5)).keep (Same.tk t6)).keep (Same.tk tq)) (.cons (((((iv_nums (ns := [3, 1]) upd_same).keep (Same.tk t4)).keep (Same.tk t5)).keep (Same.tk t6)).keep (Same.tk tq)) (.cons ((((iv_nums (ns := [1, 4]) upd_same).keep (Same.tk t5)).keep (Same.tk t6)).keep (Same.tk tq)) (.cons (((iv_nums (ns := [2, 3]) upd_same).keep (Same.tk t6)).keep (Same.tk tq)) (.cons ((iv_nums (ns := [3, 2]) upd_same).keep (Same.tk tq)) (.nil)))))), by decide, by decide, fun d hd v4 H4 iv4 R5 k5 => ?_⟩
    obtain ⟨⟨w0, h0⟩, hx, rfl⟩ := List.mem_map.mp hd
    obtain ⟨qw, rfl, sq⟩ := iv2 iv4
    refine ⟨qw, _, rfl, sq, rfl, _, _, rfl, _, _, rfl, rfl, ?_⟩
    obtain ⟨m', rfl⟩ := Int.eq_ofNat_of_zero_le m0
    have tk : TKeep K H1 H4 := (((((((((k2.tk R1.nt).trans (Same.tk t1)).trans (Same.tk t2)).trans (Same.tk t3)).trans (Same.tk t4)).trans (Same.tk t5)).trans (Same.tk t6)).trans (Same.tk tq)).trans (k5.tk R4.nt))
    have iv1' : IV K H4 v1 (rD r) := IV.keep tk iv1
    have em : (1 : Int) + (m' : Int) = ((m' + 1 : Nat) : Int) := by omega
    have ivm : IV K H4 (.int (1 + (m' : Int))) (.num ((m' + 1 : Nat) : Int)) := by rw [em]; exact IV.num
    have hx' : (w0, h0) ∈ boxes := hx
    have vi3 : VI P w K [6, 7, 14, 16, 19] H4 H4 [some (.ref a), some (.ref row), some v1, some (.int (1 + (m' : Int))), some (.int (w0 : Int)), some (.int (h0 : Int)), none, none, none, none, none, none, none, none, none, none, none, none, none, none, none, none]
        [none, some (.rw (.ref row)), some (.im (rD r)), some (.im (.num ((m' + 1 : Nat) : Int))), some (.im (.num (w0 : Int))), some (.im (.num (h0 : Int))), none, none, none, none, none, none, none, none, none, none, none, none, none, none, none, none] :=
      vi_calm (rel_none (rel_some rfl (rel_some iv1' (rel_some ivm (rel_some IV.num (rel_some IV.num (rel_none (rel_none (rel_none (rel_none (rel_none (rel_none (rel_none (rel_none (rel_none (rel_none (rel_none (rel_none (rel_none (rel_none (rel_none (rel_none rel_nil))))))))))))))))))))))
        (calm_none (calm_some rfl (calm_some rfl (calm_some rfl (calm_some rfl (calm_some rfl (calm_none (calm_none (calm_none (calm_none (calm_none (calm_none (calm_none (calm_none (calm_none (calm_none (calm_none (calm_none (calm_none (calm_none (calm_none (calm_none calm_nil))))))))))))))))))))))
    -- stills, forms
    refine ⟨H4, _, _, vi3, (show gL3 _ = some (.nx [none, some (.rw (.ref row)), some (.im (rD r)), some (.im (.num ((m' + 1 : Nat) : Int))), some (.im (.num (w0 : Int))), some (.im (.num (h0 : Int))), some (.ls []), some (.dc []), none, none, none, none, none, none, none, none, none, none, none, none, none, none]) from by simp only [gL3, fRet, fU, fAnd, fOr, fB, f1, f2, f3, fSeq, fNext, fIfS, fIf, fC, fSet, fDrop, fItems, itemsU_b, itemsU_ls, itemsU_tup, fTup, fLst, fCons, fConsF, fNil, fCall, fCallD, fNot, fChain, fUnp, fPar, setAllU, fVar_0, fVar_s, Option.bind_some, Option.bind_none, Option.map_some, isB_bl, eqU_im, eqU_ls, eqU_bb, neU_im, neU_ls, neU_bl, ltU_num, gtU_num, leU_num, geU_num, addU_num, subU_num, negU_num, isN_tup, isN_none, notN_tup, notN_none, ims_nil, ims_im, okAl_im, okAl_bl, okAl_nil, okRt_im, okRt_bl, okRt_nil, mut_im, mut_bl, mut_ls, mut_dc, lenU_tup, lenU_ls, tupU_tup, listU_tup, listU_ls, intU_num, ixU_tup, ixU_ls, ixU_dc, cutU_c, ixc0, ixc1, ixc2, ixp0, ixp1, mkTup_2, mkTup_3, mkTup_nil, mkLst_nil, okArgs_im, okArgs_nil, atI_0, atI_1, atI_2, isi_num_int, isi_num_bool, isi_tup_tuple, isi_num_tuple, wipeU, List.set_cons_zero, List.set_cons_succ, List.length_cons, List.length_nil, List.map_cons, List.map_nil, if_true, if_false, if_pos, Bool.false_eq_true, Bool.not_true, Bool.not_false, Bool.true_or, Bool.false_or, List.isEmpty_nil, List.isEmpty_cons, Option.map_none]), fun σ4 H5 vi4 => ?_⟩
    -- all boards
    obtain ⟨kvs, o8, o9, o10, o11, o12, o13, o14, o15, e4, DFk⟩ := gL4_ev ok hx' (most := m' + 1) (by omega) (by omega) (none) (some (.rw (.ref row))) (none) (none) (none) (none) (none) (none) (none) (none) (none) (none) (none) (none) (none) (none)
    refine ⟨H4, _, _, vi4, e4, fun σ5 H6 vi5 => ?_⟩
    -- due
    refine ⟨H4, _, _, vi5, (show gL5 _ = some (.nx [none, some (.rw (.ref row)), some (.im (rD r)), some (.im (.num ((m' + 1 : Nat) : Int))), some (.im (.num (w0 : Int))), some (.im (.num (h0 : Int))), some (.ls (((boxB w0 h0).filter (stillB r)).map bD)), some (.dc kvs), o8, o9, o10, o11, o12, o13, o14, o15, some (.ls []), none, none, none, none, none]) from by simp only [gL5, fRet, fU, fAnd, fOr, fB, f1, f2, f3, fSeq, fNext, fIfS, fIf, fC, fSet, fDrop, fItems, itemsU_b, itemsU_ls, itemsU_tup, fTup, fLst, fCons, fConsF, fNil, fCall, fCallD, fNot, fChain, fUnp, fPar, setAllU, fVar_0, fVar_s, Option.bind_some, Option.bind_none, Option.map_some, isB_bl, eqU_im, eqU_ls, eqU_bb, neU_im, neU_ls, neU_bl, ltU_num, gtU_num, leU_num, geU_num, addU_num, subU_num, negU_num, isN_tup, isN_none, notN_tup, notN_none, ims_nil, ims_im, okAl_im, okAl_bl, okAl_nil, okRt_im, okRt_bl, okRt_nil, mut_im, mut_bl, mut_ls, mut_dc, lenU_tup, lenU_ls, tupU_tup, listU_tup, listU_ls, intU_num, ixU_tup, ixU_ls, ixU_dc, cutU_c, ixc0, ixc1, ixc2, ixp0, ixp1, mkTup_2, mkTup_3, mkTup_nil, mkLst_nil, okArgs_im, okArgs_nil, atI_0, atI_1, atI_2, isi_num_int, isi_num_bool, isi_tup_tuple, isi_num_tuple, wipeU, List.set_cons_zero, List.set_cons_succ, List.length_cons, List.length_nil, List.map_cons, List.map_nil, if_true, if_false, if_pos, Bool.false_eq_true, Bool.not_true, Bool.not_false, Bool.true_or, Bool.false_or, List.isEmpty_nil, List.isEmpty_cons, Option.map_none]), fun σ6 H7 vi6 => ?_⟩
    obtain ⟨p9, p13, p17, e6⟩ := gL6_ev ok hx' (most := m' + 1) (by omega) DFk (formsOf_len hx') (none) (some (.rw (.ref row))) (some (.im (.num ((m' + 1 : Nat) : Int)))) (some (.im (.num (w0 : Int)))) (some (.im (.num (h0 : Int)))) (some (.ls (((boxB w0 h0).filter (stillB r)).map bD))) o8 o9 o10 o11 o12 o13 o14 o15 (none) (none) (none) (none) (none)
    refine ⟨H4, _, _, vi6, e6, fun σ7 H8 vi7 => ?_⟩
    -- the tests
    refine ⟨H4, _, _, vi7, gL7_ev ok hx' (most := m' + 1) (none) (some (.rw (.ref row))) (some (.dc kvs)) o8 (p9) o10 o11 o12 (p13) o14 o15 (some (.ls ((srtF (formsOf r w0 h0 (m' + 1))).map fun f => pcOut f (rnd r f (m' + 1) 0)))) (p17) (none) (none) (none) (none), fun σ8 H9 vi8 => ?_⟩
    refine ⟨H4, _, _, vi8, gL8_ev ok hx' (most := m' + 1) (by omega) (by omega) (none) (some (.rw (.ref row))) (some (.ls (((boxB w0 h0).filter (stillB r)).map bD))) (some (.dc kvs)) o8 (p9) o10 o11 o12 (p13) o14 o15 (p17) (none) (none) (none) (none), fun σ9 H10 vi9 => ?_⟩
    -- the pieces
    have l9 : σ9.length = 22 := vi9.len.symm
    obtain ⟨z, g1, g2⟩ := vi9.rel.get 1 _ rfl
    have g2 : z = .ref row := g2
    subst g2
    have R10 : RowAt K a H10 row := R5.same vi9.same
    refine ⟨_, g1, a, row, 6, rfl, R10, by decide, by decide, fun n H11 n0 n1 R11 k11 => ⟨n, rfl, by omega, by omega, fun D nD => ?_⟩⟩
    have Dr := R11.ne nD
    have off := R11.off nD
    refine lc_range (PvP K H11 a row D) ⟨[], [], upd_same, .nil, fun p hp => by simp at hp, Nat.le_refl _, R11.same (laid_same nD), Same.keep (laid_same nD)⟩ (fun i H12 hi p => ⟨?_, ?_⟩) (fun H12 p => ?_)
    · refine wipe_eq (by rw [List.length_set, wipe_length]) fun j hj => ?_
      rw [List.getElem?_set_ne (by rintro rfl; exact hj (List.mem_singleton.mpr rfl)), wipe_out hj]
    · show if true = true then _ else PvP K H11 a row D (i + 1) H12
      rw [if_pos rfl]
      obtain ⟨_, _, _, _, _, _, R12, _⟩ := id p
      refine ⟨.ref row, ?_, a, row, rfl, R12, fun pc hp v H13 iv R13 k13 => p.add Dr nD off hp iv R13 k13 (by omega)⟩
      rw [List.getElem?_set_ne (by decide), wipe_out (by decide)]
      exact g1
    · obtain ⟨ps, xs, d1, d2, d3, d4, R12, k12⟩ := p
      refine ⟨_, _, shNone _, rfl, fun v H13 s13 u13 fr => ?_⟩
      obtain ⟨dd, rfl, du⟩ := u13
      have ndd : H12 dd = none := by
        rcases fr rfl with ⟨x, e, hx⟩ | ⟨j, hj, _⟩
        · cases e
          exact hx
        · simp at hj
      refine ⟨(show 2 ≤ sizeLine by decide), fun t nt => ?_⟩
      refine ⟨t, _, rfl, SqT.of upd_same, rfl, _, _, rfl, _, _, rfl, rfl, ?_⟩
      have s14 := laid_same (o := .tup [.ref D, .ref dd]) nt
      have sh : ShRel P w K H12 σ9 (List.replicate 22 none) := by
        have q := shNone (P := P) (w := w) (K := K) (H := H12) σ9
        rw [l9] at q
        exact q
      have v0 : VI P w K [6, 7, 14, 16, 19] H12 (upd H13 t (.tup [.ref D, .ref dd])) σ9 (List.replicate 22 none) := (vi_calm sh (calm_rep 22)).sames (s13.trans s14)
      have uL : UV P w K (upd H13 t (.tup [.ref D, .ref dd])) (.ref D) (.ls (ps.map pcD)) := ⟨D, xs, rfl, s14 _ _ (s13 _ _ d1), d2.keep (Same.tk (s13.trans s14))⟩
      have v1 := v0.set1 (i := 18) uL (fun _ j u' v' _ e m' _ => by rw [calm_rep 22 j u' e] at m'; cases m') (fun _ h => absurd h (by decide))
      have uD : UV P w K (upd H13 t (.tup [.ref D, .ref dd])) (.ref dd) (.dc []) := UV.same s14 (u := .dc []) ⟨dd, rfl, du⟩
      have v2 := v1.set1 (i := 19) uD (fun _ j u' v' _ e m' g => by
        by_cases hj : j = 18
        · subst hj
          rw [List.getElem?_set_self (by rw [l9]; decide)] at g
          cases g
          rintro z
          cases z
          rw [ndd] at d1
          cases d1
        · rw [List.getElem?_set_ne (Ne.symm hj)] at e
          rw [calm_rep 22 j u' e] at m'
          cases m') (fun _ _ x e => by cases e; exact ndd)
      have lps : ps.length ≤ 1000 := by omega
      obtain ⟨q17, q20, e10⟩ := gL10_ev d3 lps none none none none none none none none none none none none none none none none none none none none
      refine ⟨H12, _, _, v2, e10, fun σ11 H15 vi11 => ?_⟩
      refine ⟨H12, _, _, vi11, gL11_ev d3 lps none none none none none none none none none none none none none none none none none q17 q20 none, fun v H16 _ u _ => ?_⟩
      have u : v = .bl true := u
      subst u
      exact k H16
end
end VL

set_option Elab.async false
set_option linter.all false
set_option maxRecDepth 100000
set_option maxHeartbeats 1000000
/-! VNj: from the written part to the law. -/
namespace VL
open PySem L2 PyProof.Rows

theorem tx_of {K : PySem.W.Frag} {h : Heap} {mg : Str → Option Value} {x : Str} {st : Stmt} {ps : List Str} {f : Addr} {oc : Value} {od an : Option Addr} {osl : Array (Option Value)} {kV doc pm cdv ct : Value}
    (hb : ∀ (kV doc pm : Value) (an : Option Addr) (cdv ct : Value) (us : List Value), us.length = ps.length → bindArgs (PySem.W.fnOf x x (defArgs st) (defBody st) (defScope st) .none kV doc pm an cdv ct) ⟨us, []⟩ = pure (ps.zip us))
    (X : K.In h) (G : h.Ns mainGlobals mg) (a : PySem.W.nsIn K mainGlobals x = some (some (.ref f)))
    (l : K.lookup f = some ⟨oc, od, .func (PySem.W.fnOf x x (defArgs st) (defBody st) (defScope st) .none kV doc pm an cdv ct), osl⟩) (c : PySem.W.codeIn K cdv x = true) (k : PySem.W.keepIn K (.ref f) = true) : Tx K mg x st ps :=
  ⟨f, _, PySem.W.mg_of X G a, fun_mk l c k, (fun_mk l c k).binds hb⟩
theorem int_of {K : PySem.W.Frag} {h : Heap} {mg : Str → Option Value} {x : Str} {i j : Int} {t : Tok} (X : K.In h) (G : h.Ns mainGlobals mg) (a : PySem.W.nsIn K mainGlobals x = some (some (.int i t))) (e : i = j) : ∃ t, mg x = some (.int j t) := ⟨t, by rw [← e]; exact PySem.W.mg_of X G a⟩
theorem law_end {l : PySem.W.OpenLaw} {w : World} {K : PySem.W.Frag} {h : Heap} {mg : Str → Option Value} {fa f : Addr} (X : K.In h) (G : h.Ns mainGlobals mg) (hfa : mg "law" = some (.ref fa)) (C : Cs K mg)
    {od an : Option Addr} {sl : Array (Option Value)} {oc kV dc pm cd ct : Value} (a : PySem.W.nsIn K mainGlobals "law" = some (some (.ref f)))
    (lk : K.lookup f = some ⟨oc, od, .func (PySem.W.fnOf "law" "law" (defArgs st_law) (defBody st_law) (defScope st_law) .none kV dc pm an cd ct), sl⟩) (c : PySem.W.codeIn K cd "law" = true) (k : PySem.W.keepIn K (.ref f) = true) :
    ∃ fd : FuncData, (∀ (s : Shared) (v : Value), BindsTo s fd ⟨[v], []⟩ [("_law_script", v)]) ∧ ∀ base : Heap, K.In base → base.Ns mainGlobals mg → FnOk l.prog w K mg base CX0 9 fa fd ["_law_script"] (spLaw K) := by
  have e := hfa.symm.trans (PySem.W.mg_of X G a)
  cases e
  exact ⟨PySem.W.fnOf "law" "law" (defArgs st_law) (defBody st_law) (defScope st_law) .none kV dc pm an cd ct, fun s v => .of_eq rfl, fun base _ _ => law_ok C (fun_mk lk c k)⟩
theorem walk {l : PySem.W.OpenLaw} {q : Program} {loose : List Str} {XP : (Str → Option Value) → Heap → Prop} {YP : World → Heap → Prop} {d : DefRec} {K : Params → PySem.W.Frag} (hn : l.most = some 63) (hdf : d.params.defaults = [])
    (hY : ∀ (w : World) (h : Heap), YP w h → (K w.params).In h)
    (F : ∀ (w : World) (mg : Str → Option Value) (fa : Addr) (h : Heap), (K w.params).In h → h.Ns mainGlobals mg → mg d.name = some (.ref fa) →
      ∃ fd : FuncData, (∀ (s : Shared) (u : Value), BindsTo s fd ⟨[u], []⟩ [("_law_script", u)]) ∧ ∀ base : Heap, (K w.params).In base → base.Ns mainGlobals mg → FnOk l.prog w (K w.params) mg base CX0 9 fa fd ["_law_script"] (spLaw (K w.params))) :
    PySem.W.WalkO q loose XP YP l.row.toRowW d [] (fun f vs => PySem.call f vs) :=
  L2.walk_of (n := 63) (k := 9) (x := "_law_script") (CX := fun _ => CX0) (sp := fun w => spLaw (K w.params)) hn (by decide) hdf ⟨rfl, by decide, by decide⟩ hY F (fun _ _ a ns hl _ hS => ⟨a, ns, rfl, hS, fun _ => rfl⟩) fun _ _ _ _ _ z => z
end VL

open PySem PySem.W PyProof.Rows
set_option maxRecDepth 100000 in
set_option maxHeartbeats 0 in
theorem PySem.Challenge.cw_fateboards_k16_whole_searches_holds : PySem.Challenge.rw_fateboards_k16_whole_searches.Holds := by
  w_on; o_law; k_head; (case hw => w_witness2)
  k_fill
  refine VL.walk (l := PySem.Challenge.rw_fateboards_k16_whole_searches) rfl rfl (fun w h Y => PySem.W.kIn_of Y) ?F
  case F =>
    intro w mg fa h KX G hmg
    have b_isinstance : mg "isinstance" = none := by
      refine' PySem.W.mg_none_of KX G ?z
      (case z => k_is)
    have b_len : mg "len" = none := by
      refine' PySem.W.mg_none_of KX G ?z
      (case z => k_is)
    have b_tuple : mg "tuple" = none := by
      refine' PySem.W.mg_none_of KX G ?z
      (case z => k_is)
    have b_list : mg "list" = none := by
      refine' PySem.W.mg_none_of KX G ?z
      (case z => k_is)
    have b_int : mg "int" = none := by
      refine' PySem.W.mg_none_of KX G ?z
      (case z => k_is)
    have b_bool : mg "bool" = none := by
      refine' PySem.W.mg_none_of KX G ?z
      (case z => k_is)
    have b_str : mg "str" = none := by
      refine' PySem.W.mg_none_of KX G ?z
      (case z => k_is)
    have b_sorted : mg "sorted" = none := by
      refine' PySem.W.mg_none_of KX G ?z
      (case z => k_is)
    have b_set : mg "set" = none := by
      refine' PySem.W.mg_none_of KX G ?z
      (case z => k_is)
    have b_dict : mg "dict" = none := by
      refine' PySem.W.mg_none_of KX G ?z
      (case z => k_is)
    have b_range : mg "range" = none := by
      refine' PySem.W.mg_none_of KX G ?z
      (case z => k_is)
    have b_enumerate : mg "enumerate" = none := by
      refine' PySem.W.mg_none_of KX G ?z
      (case z => k_is)
    have b_min : mg "min" = none := by
      refine' PySem.W.mg_none_of KX G ?z
      (case z => k_is)
    have b_max : mg "max" = none := by
      refine' PySem.W.mg_none_of KX G ?z
      (case z => k_is)
    have c_MOST_STATES : ∃ t, mg "MOST_STATES" = some (.int (6) t) := by
      refine' VL.int_of KX G ?z ?e
      (case z => k_is)
      (case e => rfl)
    have c_FAR : ∃ t, mg "FAR" = some (.int (10 ^ 60) t) := by
      refine' VL.int_of KX G ?z ?e
      (case z => k_is)
      (case e => rfl)
    have c_MOST_CELLS : ∃ t, mg "MOST_CELLS" = some (.int (3000) t) := by
      refine' VL.int_of KX G ?z ?e
      (case z => k_is)
      (case e => rfl)
    have c_MOST_PERIOD : ∃ t, mg "MOST_PERIOD" = some (.int (240) t) := by
      refine' VL.int_of KX G ?z ?e
      (case z => k_is)
      (case e => rfl)
    have c_MOST_SIZE : ∃ t, mg "MOST_SIZE" = some (.int (300) t) := by
      refine' VL.int_of KX G ?z ?e
      (case z => k_is)
      (case e => rfl)
    have c_MOST_BOX : ∃ t, mg "MOST_BOX" = some (.int (12) t) := by
      refine' VL.int_of KX G ?z ?e
      (case z => k_is)
      (case e => rfl)
    have c_MOST_ROUND : ∃ t, mg "MOST_ROUND" = some (.int (12) t) := by
      refine' VL.int_of KX G ?z ?e
      (case z => k_is)
      (case e => rfl)
    refine' (fun (t_is_in : VL.Tx _ mg "is_in" VL.st_is_in ["value", "least", "most"]) => ?_) (VL.tx_of (fun _ _ _ _ _ _ us hl => match us, hl with | [_, _, _], _ => rfl) KX G ?a ?l ?c ?k)
    (case a => k_is); (case l => k_is); (case c => k_is); (case k => k_is)
    refine' (fun (t_are_counts : VL.Tx _ mg "are_counts" VL.st_are_counts ["value", "least"]) => ?_) (VL.tx_of (fun _ _ _ _ _ _ us hl => match us, hl with | [_, _], _ => rfl) KX G ?a ?l ?c ?k)
    (case a => k_is); (case l => k_is); (case c => k_is); (case k => k_is)
    refine' (fun (t_is_rule : VL.Tx _ mg "is_rule" VL.st_is_rule ["rule"]) => ?_) (VL.tx_of (fun _ _ _ _ _ _ us hl => match us, hl with | [_], _ => rfl) KX G ?a ?l ?c ?k)
    (case a => k_is); (case l => k_is); (case c => k_is); (case k => k_is)
    refine' (fun (t_need_rule : VL.Tx _ mg "need_rule" VL.st_need_rule ["rule"]) => ?_) (VL.tx_of (fun _ _ _ _ _ _ us hl => match us, hl with | [_], _ => rfl) KX G ?a ?l ?c ?k)
    (case a => k_is); (case l => k_is); (case c => k_is); (case k => k_is)
    refine' (fun (t_is_move : VL.Tx _ mg "is_move" VL.st_is_move ["value"]) => ?_) (VL.tx_of (fun _ _ _ _ _ _ us hl => match us, hl with | [_], _ => rfl) KX G ?a ?l ?c ?k)
    (case a => k_is); (case l => k_is); (case c => k_is); (case k => k_is)
    refine' (fun (t_is_cell : VL.Tx _ mg "is_cell" VL.st_is_cell ["cell"]) => ?_) (VL.tx_of (fun _ _ _ _ _ _ us hl => match us, hl with | [_], _ => rfl) KX G ?a ?l ?c ?k)
    (case a => k_is); (case l => k_is); (case c => k_is); (case k => k_is)
    refine' (fun (t_need_board : VL.Tx _ mg "need_board" VL.st_need_board ["board"]) => ?_) (VL.tx_of (fun _ _ _ _ _ _ us hl => match us, hl with | [_], _ => rfl) KX G ?a ?l ?c ?k)
    (case a => k_is); (case l => k_is); (case c => k_is); (case k => k_is)
    refine' (fun (t_board_of : VL.Tx _ mg "board_of" VL.st_board_of ["cells"]) => ?_) (VL.tx_of (fun _ _ _ _ _ _ us hl => match us, hl with | [_], _ => rfl) KX G ?a ?l ?c ?k)
    (case a => k_is); (case l => k_is); (case c => k_is); (case k => k_is)
    refine' (fun (t_cells_of : VL.Tx _ mg "cells_of" VL.st_cells_of ["board"]) => ?_) (VL.tx_of (fun _ _ _ _ _ _ us hl => match us, hl with | [_], _ => rfl) KX G ?a ?l ?c ?k)
    (case a => k_is); (case l => k_is); (case c => k_is); (case k => k_is)
    refine' (fun (t_shifted_in : VL.Tx _ mg "shifted_in" VL.st_shifted_in ["board", "move"]) => ?_) (VL.tx_of (fun _ _ _ _ _ _ us hl => match us, hl with | [_, _], _ => rfl) KX G ?a ?l ?c ?k)
    (case a => k_is); (case l => k_is); (case c => k_is); (case k => k_is)
    refine' (fun (t_turned_place : VL.Tx _ mg "turned_place" VL.st_turned_place ["x", "y", "turn"]) => ?_) (VL.tx_of (fun _ _ _ _ _ _ us hl => match us, hl with | [_, _, _], _ => rfl) KX G ?a ?l ?c ?k)
    (case a => k_is); (case l => k_is); (case c => k_is); (case k => k_is)
    refine' (fun (t_turned_in : VL.Tx _ mg "turned_in" VL.st_turned_in ["board", "turn"]) => ?_) (VL.tx_of (fun _ _ _ _ _ _ us hl => match us, hl with | [_, _], _ => rfl) KX G ?a ?l ?c ?k)
    (case a => k_is); (case l => k_is); (case c => k_is); (case k => k_is)
    refine' (fun (t_box_in : VL.Tx _ mg "box_in" VL.st_box_in ["board"]) => ?_) (VL.tx_of (fun _ _ _ _ _ _ us hl => match us, hl with | [_], _ => rfl) KX G ?a ?l ?c ?k)
    (case a => k_is); (case l => k_is); (case c => k_is); (case k => k_is)
    refine' (fun (t_normal_in : VL.Tx _ mg "normal_in" VL.st_normal_in ["board"]) => ?_) (VL.tx_of (fun _ _ _ _ _ _ us hl => match us, hl with | [_], _ => rfl) KX G ?a ?l ?c ?k)
    (case a => k_is); (case l => k_is); (case c => k_is); (case k => k_is)
    refine' (fun (t_neighbours : VL.Tx _ mg "neighbours" VL.st_neighbours ["cells"]) => ?_) (VL.tx_of (fun _ _ _ _ _ _ us hl => match us, hl with | [_], _ => rfl) KX G ?a ?l ?c ?k)
    (case a => k_is); (case l => k_is); (case c => k_is); (case k => k_is)
    refine' (fun (t_next_cells : VL.Tx _ mg "next_cells" VL.st_next_cells ["rule", "cells"]) => ?_) (VL.tx_of (fun _ _ _ _ _ _ us hl => match us, hl with | [_, _], _ => rfl) KX G ?a ?l ?c ?k)
    (case a => k_is); (case l => k_is); (case c => k_is); (case k => k_is)
    refine' (fun (t_need_small : VL.Tx _ mg "need_small" VL.st_need_small ["board"]) => ?_) (VL.tx_of (fun _ _ _ _ _ _ us hl => match us, hl with | [_], _ => rfl) KX G ?a ?l ?c ?k)
    (case a => k_is); (case l => k_is); (case c => k_is); (case k => k_is)
    refine' (fun (t_need_states : VL.Tx _ mg "need_states" VL.st_need_states ["rule", "board"]) => ?_) (VL.tx_of (fun _ _ _ _ _ _ us hl => match us, hl with | [_, _], _ => rfl) KX G ?a ?l ?c ?k)
    (case a => k_is); (case l => k_is); (case c => k_is); (case k => k_is)
    refine' (fun (t_step_in : VL.Tx _ mg "step_in" VL.st_step_in ["rule", "board"]) => ?_) (VL.tx_of (fun _ _ _ _ _ _ us hl => match us, hl with | [_, _], _ => rfl) KX G ?a ?l ?c ?k)
    (case a => k_is); (case l => k_is); (case c => k_is); (case k => k_is)
    refine' (fun (t_is_beyond : VL.Tx _ mg "is_beyond" VL.st_is_beyond ["board"]) => ?_) (VL.tx_of (fun _ _ _ _ _ _ us hl => match us, hl with | [_], _ => rfl) KX G ?a ?l ?c ?k)
    (case a => k_is); (case l => k_is); (case c => k_is); (case k => k_is)
    refine' (fun (t_phases_in : VL.Tx _ mg "phases_in" VL.st_phases_in ["rule", "board", "period"]) => ?_) (VL.tx_of (fun _ _ _ _ _ _ us hl => match us, hl with | [_, _, _], _ => rfl) KX G ?a ?l ?c ?k)
    (case a => k_is); (case l => k_is); (case c => k_is); (case k => k_is)
    refine' (fun (t_is_piece_shape : VL.Tx _ mg "is_piece_shape" VL.st_is_piece_shape ["piece"]) => ?_) (VL.tx_of (fun _ _ _ _ _ _ us hl => match us, hl with | [_], _ => rfl) KX G ?a ?l ?c ?k)
    (case a => k_is); (case l => k_is); (case c => k_is); (case k => k_is)
    refine' (fun (t_is_piece : VL.Tx _ mg "is_piece" VL.st_is_piece ["rule", "piece"]) => ?_) (VL.tx_of (fun _ _ _ _ _ _ us hl => match us, hl with | [_, _], _ => rfl) KX G ?a ?l ?c ?k)
    (case a => k_is); (case l => k_is); (case c => k_is); (case k => k_is)
    refine' (fun (t_need_piece : VL.Tx _ mg "need_piece" VL.st_need_piece ["rule", "piece"]) => ?_) (VL.tx_of (fun _ _ _ _ _ _ us hl => match us, hl with | [_, _], _ => rfl) KX G ?a ?l ?c ?k)
    (case a => k_is); (case l => k_is); (case c => k_is); (case k => k_is)
    refine' (fun (t_round_in : VL.Tx _ mg "round_in" VL.st_round_in ["rule", "board", "most"]) => ?_) (VL.tx_of (fun _ _ _ _ _ _ us hl => match us, hl with | [_, _, _], _ => rfl) KX G ?a ?l ?c ?k)
    (case a => k_is); (case l => k_is); (case c => k_is); (case k => k_is)
    refine' (fun (t_form_in : VL.Tx _ mg "form_in" VL.st_form_in ["rule", "piece"]) => ?_) (VL.tx_of (fun _ _ _ _ _ _ us hl => match us, hl with | [_, _], _ => rfl) KX G ?a ?l ?c ?k)
    (case a => k_is); (case l => k_is); (case c => k_is); (case k => k_is)
    refine' (fun (t_form_of : VL.Tx _ mg "form_of" VL.st_form_of ["rule", "piece"]) => ?_) (VL.tx_of (fun _ _ _ _ _ _ us hl => match us, hl with | [_, _], _ => rfl) KX G ?a ?l ?c ?k)
    (case a => k_is); (case l => k_is); (case c => k_is); (case k => k_is)
    refine' (fun (t_need_box : VL.Tx _ mg "need_box" VL.st_need_box ["wide", "high", "most"]) => ?_) (VL.tx_of (fun _ _ _ _ _ _ us hl => match us, hl with | [_, _, _], _ => rfl) KX G ?a ?l ?c ?k)
    (case a => k_is); (case l => k_is); (case c => k_is); (case k => k_is)
    refine' (fun (t_boards_in : VL.Tx _ mg "boards_in" VL.st_boards_in ["wide", "high"]) => ?_) (VL.tx_of (fun _ _ _ _ _ _ us hl => match us, hl with | [_, _], _ => rfl) KX G ?a ?l ?c ?k)
    (case a => k_is); (case l => k_is); (case c => k_is); (case k => k_is)
    refine' (fun (t_pieces_in_box : VL.Tx _ mg "pieces_in_box" VL.st_pieces_in_box ["rule", "wide", "high", "most"]) => ?_) (VL.tx_of (fun _ _ _ _ _ _ us hl => match us, hl with | [_, _, _, _], _ => rfl) KX G ?a ?l ?c ?k)
    (case a => k_is); (case l => k_is); (case c => k_is); (case k => k_is)
    refine' (fun (t_stills_in_box : VL.Tx _ mg "stills_in_box" VL.st_stills_in_box ["rule", "wide", "high"]) => ?_) (VL.tx_of (fun _ _ _ _ _ _ us hl => match us, hl with | [_, _, _], _ => rfl) KX G ?a ?l ?c ?k)
    (case a => k_is); (case l => k_is); (case c => k_is); (case k => k_is)
    refine' (fun (t_census : VL.Tx _ mg "census" VL.st_census ["rule", "pieces"]) => ?_) (VL.tx_of (fun _ _ _ _ _ _ us hl => match us, hl with | [_, _], _ => rfl) KX G ?a ?l ?c ?k)
    (case a => k_is); (case l => k_is); (case c => k_is); (case k => k_is)
    refine' (fun (t_census_in : VL.Tx _ mg "census_in" VL.st_census_in ["rule", "pieces"]) => ?_) (VL.tx_of (fun _ _ _ _ _ _ us hl => match us, hl with | [_, _], _ => rfl) KX G ?a ?l ?c ?k)
    (case a => k_is); (case l => k_is); (case c => k_is); (case k => k_is)
    refine' (fun (t__law_taken : VL.Tx _ mg "_law_taken" VL.st__law_taken ["_law_row", "_law_many"]) => ?_) (VL.tx_of (fun _ _ _ _ _ _ us hl => match us, hl with | [_, _], _ => rfl) KX G ?a ?l ?c ?k)
    (case a => k_is); (case l => k_is); (case c => k_is); (case k => k_is)
    refine' (fun (t__law_pick : VL.Tx _ mg "_law_pick" VL.st__law_pick ["_law_row", "_law_things"]) => ?_) (VL.tx_of (fun _ _ _ _ _ _ us hl => match us, hl with | [_, _], _ => rfl) KX G ?a ?l ?c ?k)
    (case a => k_is); (case l => k_is); (case c => k_is); (case k => k_is)
    refine' (fun (t__law_some_rule : VL.Tx _ mg "_law_some_rule" VL.st__law_some_rule ["_law_row"]) => ?_) (VL.tx_of (fun _ _ _ _ _ _ us hl => match us, hl with | [_], _ => rfl) KX G ?a ?l ?c ?k)
    (case a => k_is); (case l => k_is); (case c => k_is); (case k => k_is)
    refine' (fun (t__law_box : VL.Tx _ mg "_law_box" VL.st__law_box ["_law_board"]) => ?_) (VL.tx_of (fun _ _ _ _ _ _ us hl => match us, hl with | [_], _ => rfl) KX G ?a ?l ?c ?k)
    (case a => k_is); (case l => k_is); (case c => k_is); (case k => k_is)
    refine' (fun (t__law_box_boards : VL.Tx _ mg "_law_box_boards" VL.st__law_box_boards ["_law_wide", "_law_high"]) => ?_) (VL.tx_of (fun _ _ _ _ _ _ us hl => match us, hl with | [_, _], _ => rfl) KX G ?a ?l ?c ?k)
    (case a => k_is); (case l => k_is); (case c => k_is); (case k => k_is)
    refine' (fun (t__law_moved : VL.Tx _ mg "_law_moved" VL.st__law_moved ["_law_board", "_law_x", "_law_y"]) => ?_) (VL.tx_of (fun _ _ _ _ _ _ us hl => match us, hl with | [_, _, _], _ => rfl) KX G ?a ?l ?c ?k)
    (case a => k_is); (case l => k_is); (case c => k_is); (case k => k_is)
    refine' (fun (t__law_normal : VL.Tx _ mg "_law_normal" VL.st__law_normal ["_law_board"]) => ?_) (VL.tx_of (fun _ _ _ _ _ _ us hl => match us, hl with | [_], _ => rfl) KX G ?a ?l ?c ?k)
    (case a => k_is); (case l => k_is); (case c => k_is); (case k => k_is)
    refine' (fun (t__law_around : VL.Tx _ mg "_law_around" VL.st__law_around ["_law_place"]) => ?_) (VL.tx_of (fun _ _ _ _ _ _ us hl => match us, hl with | [_], _ => rfl) KX G ?a ?l ?c ?k)
    (case a => k_is); (case l => k_is); (case c => k_is); (case k => k_is)
    refine' (fun (t__law_step : VL.Tx _ mg "_law_step" VL.st__law_step ["_law_rule", "_law_board"]) => ?_) (VL.tx_of (fun _ _ _ _ _ _ us hl => match us, hl with | [_, _], _ => rfl) KX G ?a ?l ?c ?k)
    (case a => k_is); (case l => k_is); (case c => k_is); (case k => k_is)
    refine' (fun (t__law_turned_piece : VL.Tx _ mg "_law_turned_piece" VL.st__law_turned_piece ["_law_piece", "_law_turn"]) => ?_) (VL.tx_of (fun _ _ _ _ _ _ us hl => match us, hl with | [_, _], _ => rfl) KX G ?a ?l ?c ?k)
    (case a => k_is); (case l => k_is); (case c => k_is); (case k => k_is)
    refine' (fun (t__law_alike : VL.Tx _ mg "_law_alike" VL.st__law_alike ["_law_found", "_law_due"]) => ?_) (VL.tx_of (fun _ _ _ _ _ _ us hl => match us, hl with | [_, _], _ => rfl) KX G ?a ?l ?c ?k)
    (case a => k_is); (case l => k_is); (case c => k_is); (case k => k_is)
    refine' (fun (t__law_kit : VL.Tx _ mg "_law_kit" VL.st__law_kit []) => ?_) (VL.tx_of (fun _ _ _ _ _ _ us hl => match us, hl with | [], _ => rfl) KX G ?a ?l ?c ?k)
    (case a => k_is); (case l => k_is); (case c => k_is); (case k => k_is)
    refine' (fun (t__law_signed : VL.Tx _ mg "_law_signed" VL.st__law_signed ["_law_row", "_law_most"]) => ?_) (VL.tx_of (fun _ _ _ _ _ _ us hl => match us, hl with | [_, _], _ => rfl) KX G ?a ?l ?c ?k)
    (case a => k_is); (case l => k_is); (case c => k_is); (case k => k_is)
    refine' (fun (t__law_some_piece : VL.Tx _ mg "_law_some_piece" VL.st__law_some_piece ["_law_row", "_law_far"]) => ?_) (VL.tx_of (fun _ _ _ _ _ _ us hl => match us, hl with | [_, _], _ => rfl) KX G ?a ?l ?c ?k)
    (case a => k_is); (case l => k_is); (case c => k_is); (case k => k_is)
    refine' (fun (t_law : VL.Tx _ mg "law" VL.st_law ["_law_script"]) => ?_) (VL.tx_of (fun _ _ _ _ _ _ us hl => match us, hl with | [_], _ => rfl) KX G ?a ?l ?c ?k)
    (case a => k_is); (case l => k_is); (case c => k_is); (case k => k_is)
    refine' VL.law_end KX G hmg ⟨b_isinstance, b_len, b_tuple, b_list, b_int, b_bool, b_str, b_sorted, b_set, b_dict, b_range, b_enumerate, b_min, b_max, c_MOST_STATES, c_FAR, c_MOST_CELLS, c_MOST_PERIOD, c_MOST_SIZE, c_MOST_BOX, c_MOST_ROUND, t_is_in, t_are_counts, t_is_rule, t_need_rule, t_is_move, t_is_cell, t_need_board, t_board_of, t_cells_of, t_shifted_in, t_turned_place, t_turned_in, t_box_in, t_normal_in, t_neighbours, t_next_cells, t_need_small, t_need_states, t_step_in, t_is_beyond, t_phases_in, t_is_piece_shape, t_is_piece, t_need_piece, t_round_in, t_form_in, t_form_of, t_need_box, t_boards_in, t_pieces_in_box, t_stills_in_box, t_census, t_census_in, t__law_taken, t__law_pick, t__law_some_rule, t__law_box, t__law_box_boards, t__law_moved, t__law_normal, t__law_around, t__law_step, t__law_turned_piece, t__law_alike, t__law_kit, t__law_signed, t__law_some_piece, t_law⟩ ?a ?l ?c ?k
    (case a => k_is); (case l => k_is); (case c => k_is); (case k => k_is)
