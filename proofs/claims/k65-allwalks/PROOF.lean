import PyProof.Rows.All
import Wide.All
import OpenK.AllK
import Wide.FinOn
import HandS.ForMost
import KE.KeyNested
import PyProof.DictRoadsH
import HandS.Wide
import HandS.TupAny
import HandS.Deep
import HandS.IsInst
import HandS.SortInts
import HandS.SortRule
import PyProof.Rows.TupTab
import HandS.Style
import HandS.NoneIn
import HandS.TupSets
import HandS.SetFor
import HandS.TupMul
import HandS.TupLe
import HandS.Conv
import HandS.Zip
import HandS.Text
import HandS.Flt
import PySem.Challenge.RW_everypairing_k65_whole_game_by_all_walks
set_option Elab.async false
set_option linter.all false
set_option maxRecDepth 100000
set_option maxHeartbeats 2000000
/-! DLNest: dicts whose keys are (tuple of ints, int) and whose values are truths. -/
namespace DL
open PySem L2
abbrev NK := List Int × Int
def nkey (k : NK) : NestedKey := .tup [.tup (k.1.map .num), .num k.2]
theorem nums_inj : ∀ {l m : List Int}, (l.map NestedKey.num) = m.map .num → l = m
  | [], [], _ => rfl
  | [], _ :: _, h => by simp at h
  | _ :: _, [], h => by simp at h
  | x :: l, y :: m, h => by
    simp only [List.map_cons, List.cons.injEq, NestedKey.num.injEq] at h
    rw [h.1, nums_inj h.2]
theorem nkey_inj {k m : NK} (h : nkey k = nkey m) : k = m := by
  unfold nkey at h
  simp only [NestedKey.tup.injEq, List.cons.injEq, NestedKey.num.injEq, and_true] at h
  exact Prod.ext (nums_inj h.1) h.2
theorem hashes_w (w w' : World) : ∀ l : List Int, NestedKey.hashes w (l.map .num) = NestedKey.hashes w' (l.map .num)
  | [] => by simp [NestedKey.hashes]
  | x :: l => by
    simp only [List.map_cons, NestedKey.hashes, NestedKey.hash]
    rw [hashes_w w w' l]
theorem hash_w (w w' : World) (k : NK) : (nkey k).hash w = (nkey k).hash w' := by
  unfold nkey
  simp only [NestedKey.hash, NestedKey.hashes]
  rw [hashes_w w w']
abbrev KV := (Addr × NK) × Bool
def entN (w : World) (p : KV) : DictEntry := ⟨(nkey p.1.2).hash w, .ref p.1.1, .bool p.2⟩
def DNat (h : Heap) (a : Addr) (kvs : List KV) : Prop :=
  ∃ o es ep, h.get? a = some o ∧ o.ExactDict ∧ o.data = .dict es ep ∧ (∀ w, es.toList = kvs.map (entN w)) ∧ (kvs.map (·.1.2)).Nodup ∧ (a == sysModules) = false
/-- the dict at a -/
def DNo (a : Addr) (kvs : List KV) : HO := .ext fun h => DNat h a kvs
def kyD (k : NK) : PyData := .tuple [.tuple (k.1.map .int), .int k.2]
def dkv (p : KV) : PyData × PyData := (kyD p.1.2, .bool p.2)
end DL

set_option Elab.async false
set_option linter.all false
set_option maxRecDepth 100000
set_option maxHeartbeats 2000000
/-! DL: a layer of plain data over the hand layer: what stands in a slot is a PyData; lists that the code changes are owned. -/
namespace DL
open PySem L2
abbrev D := PyData
abbrev Env := List (Option D)
abbrev Fr := PySem.W.Frag

def Ex (H H' : Hp) : Prop := ∀ a o, H a = some o → H' a = some o
theorem Ex.refl (H : Hp) : Ex H H := fun _ _ h => h
theorem Ex.trans {H H1 H2 : Hp} (a : Ex H H1) (b : Ex H1 H2) : Ex H H2 := fun x o h => b x o (a x o h)
theorem Ex.new {H : Hp} {p : Addr} {o : HO} (h : H p = none) : Ex H (upd H p o) := fun a u e => by
  rw [upd_ne (ne_of_none e h)]
  exact e
theorem ex_rd {H H' : Hp} {a : Addr} {u : HO} (e : Ex H H') (h : Rd H a u) : Rd H' a u := by
  rcases h with h | ⟨o, h⟩
  · exact Or.inl (e a _ h)
  · exact Or.inr ⟨o, e a _ h⟩
theorem ex_l {K : Fr} {H H' : Hp} {a : Addr} {xs : List V} (e : Ex H H') (h : SqL K H a xs) : SqL K H' a xs := by
  rcases h with h | h
  · exact Or.inl (ex_rd e h)
  · exact Or.inr h
theorem ex_t {K : Fr} {H H' : Hp} {a : Addr} {xs : List V} (e : Ex H H') (h : SqT K H a xs) : SqT K H' a xs := by
  rcases h with h | h
  · exact Or.inl (ex_rd e h)
  · exact Or.inr h
theorem ex_none {H H' : Hp} {a : Addr} (e : Ex H H') (h : H' a = none) : H a = none := by
  cases q : H a with
  | none => rfl
  | some o =>
    rw [e a o q] at h
    cases h

mutual
/-- data that never changes: its lists and tuples stand in the heap F -/
inductive Dp (K : Fr) (F : Hp) : V → D → Prop
  | non : Dp K F .non .none
  | bl (b : Bool) : Dp K F (.bl b) (.bool b)
  | int (i : Int) : Dp K F (.int i) (.int i)
  | str (x : Str) : Dp K F (.str x) (.str x)
  | lst {a : Addr} {xs : List V} {ds : List D} : SqL K F a xs → DpAll K F xs ds → Dp K F (.ref a) (.list ds)
  | tup {a : Addr} {xs : List V} {ds : List D} : F a = some (.tup xs) → DpAll K F xs ds → Dp K F (.ref a) (.tuple ds)
inductive DpAll (K : Fr) (F : Hp) : List V → List D → Prop
  | nil : DpAll K F [] []
  | cons {v : V} {vs : List V} {d : D} {ds : List D} : Dp K F v d → DpAll K F vs ds → DpAll K F (v :: vs) (d :: ds)
end
mutual
theorem Dp.to {K : Fr} {F : Hp} : ∀ {d : D} {v : V}, Dp K F v d → L2.Dp K F v d
  | .none, _, h => by
    cases h
    exact .non
  | .bool b, _, h => by
    cases h
    exact .bl b
  | .int i, _, h => by
    cases h
    exact .int i
  | .str x, _, h => by
    cases h
    exact .str x
  | .list ds, _, h => by
    cases h with
    | lst hs ha => exact .lst hs (Dp.toAll ha)
  | .tuple ds, _, h => by
    cases h with
    | tup hs ha => exact .tup (SqT.of hs) (Dp.toAll ha)
  | .dict _, _, h => by cases h
theorem Dp.toAll {K : Fr} {F : Hp} : ∀ {ds : List D} {vs : List V}, DpAll K F vs ds → L2.DpAll K F vs ds
  | [], _, h => by
    cases h
    exact .nil
  | d :: ds, _, h => by
    cases h with
    | cons h1 h2 => exact .cons (Dp.to h1) (Dp.toAll h2)
end
mutual
theorem Dp.ex {K : Fr} {H H' : Hp} (e : Ex H H') : ∀ (d : D) (v : V), Dp K H v d → Dp K H' v d
  | .none, _, h => by
    cases h
    exact .non
  | .bool b, _, h => by
    cases h
    exact .bl b
  | .int i, _, h => by
    cases h
    exact .int i
  | .str x, _, h => by
    cases h
    exact .str x
  | .list ds, _, h => by
    cases h with
    | lst hs ha => exact .lst (ex_l e hs) (Dp.exAll e ds _ ha)
  | .tuple ds, _, h => by
    cases h with
    | tup hs ha => exact .tup (e _ _ hs) (Dp.exAll e ds _ ha)
  | .dict _, _, h => by cases h
theorem Dp.exAll {K : Fr} {H H' : Hp} (e : Ex H H') : ∀ (ds : List D) (vs : List V), DpAll K H vs ds → DpAll K H' vs ds
  | [], _, h => by
    cases h
    exact .nil
  | d :: ds, _, h => by
    cases h with
    | cons h1 h2 => exact .cons (Dp.ex e d _ h1) (Dp.exAll e ds _ h2)
end
theorem dpAll_len {K : Fr} {H : Hp} : ∀ {ds : List D} {vs : List V}, DpAll K H vs ds → vs.length = ds.length
  | [], _, h => by
    cases h
    rfl
  | d :: ds, _, h => by
    cases h with
    | cons h1 h2 => simp [dpAll_len h2]
theorem dpAll_get {K : Fr} {H : Hp} : ∀ {ds : List D} {vs : List V} {i : Nat} {d : D}, DpAll K H vs ds → ds[i]? = some d → ∃ v, vs[i]? = some v ∧ Dp K H v d
  | [], _, _, _, _, e => by simp at e
  | d :: ds, _, i, d', h, e => by
    cases h with
    | cons h1 h2 =>
      cases i with
      | zero =>
        simp at e
        subst e
        exact ⟨_, by simp, h1⟩
      | succ i =>
        obtain ⟨v, q1, q2⟩ := dpAll_get (i := i) (d := d') h2 (by simpa using e)
        exact ⟨v, by simpa using q1, q2⟩
theorem dpAll_append {K : Fr} {H : Hp} : ∀ {ds es : List D} {vs ws : List V}, DpAll K H vs ds → DpAll K H ws es → DpAll K H (vs ++ ws) (ds ++ es)
  | [], _, _, _, h, q => by
    cases h
    exact q
  | d :: ds, _, _, _, h, q => by
    cases h with
    | cons h1 h2 => exact .cons h1 (dpAll_append h2 q)

/-! ### owned data -/
inductive AllN (P : V → D → List Addr → Prop) : List V → List D → List Addr → Prop
  | nil : AllN P [] [] []
  | cons {v : V} {vs : List V} {d : D} {ds : List D} {A B : List Addr} : P v d A → AllN P vs ds B → (∀ a ∈ A, a ∉ B) → AllN P (v :: vs) (d :: ds) (A ++ B)
def kD : Key → D
  | .inl i => .int i
  | .inr x => .str x
/-- a list or a dict -/
def isLD : D → Bool
  | .list _ => true
  | .dict _ => true
  | _ => false
def Own (K : Fr) (F H : Hp) : Nat → V → D → List Addr → Prop
  | 0, v, d, B => Dp K F v d ∧ B = []
  | n + 1, v, d, B => (Dp K F v d ∧ B = [] ∧ isLD d = false) ∨
      (∃ a vs ds B', v = .ref a ∧ d = .list ds ∧ B = a :: B' ∧ H a = some (.lst vs) ∧ F a = none ∧ a ∉ B' ∧ AllN (Own K F H n) vs ds B') ∨
      (∃ a kvs ds B', v = .ref a ∧ d = .dict ((PyData.none, PyData.none) :: (kvs.map fun p => kD p.1).zip ds) ∧ B = a :: B' ∧ H a = some (.dK kvs) ∧ F a = none ∧ a ∉ B' ∧ AllN (Own K F H n) (kvs.map (·.2)) ds B') ∨
      (∃ (a : Addr) (kvs : List KV) (_ : Unit) (B' : List Addr), v = .ref a ∧ d = .dict (kvs.map dkv) ∧ B = a :: B' ∧ H a = some (DNo a kvs) ∧ F a = none ∧ a ∉ B' ∧ (B' = [] ∧ ∀ p ∈ kvs, Dp K F (.ref p.1.1) (kyD p.1.2)))
theorem AllN.imp {P P' : V → D → List Addr → Prop} : ∀ {vs : List V} {ds : List D} {B : List Addr}, AllN P vs ds B → (∀ v d A, (∀ a ∈ A, a ∈ B) → P v d A → P' v d A) → AllN P' vs ds B
  | _, _, _, .nil, _ => .nil
  | _, _, _, .cons h1 h2 h3, f => .cons (f _ _ _ (fun a ha => List.mem_append_left _ ha) h1) (AllN.imp h2 fun v d A hA hp => f v d A (fun a ha => List.mem_append_right _ (hA a ha)) hp) h3
theorem AllN.len {P : V → D → List Addr → Prop} : ∀ {vs : List V} {ds : List D} {B : List Addr}, AllN P vs ds B → vs.length = ds.length
  | _, _, _, .nil => rfl
  | _, _, _, .cons _ h2 _ => by simp [AllN.len h2]
theorem AllN.sub {P : V → D → List Addr → Prop} {S : Addr → Prop} : ∀ {vs : List V} {ds : List D} {B : List Addr}, AllN P vs ds B → (∀ v d A, P v d A → ∀ a ∈ A, S a) → ∀ a ∈ B, S a
  | _, _, _, .nil, _, a, ha => by simp at ha
  | _, _, _, .cons h1 h2 _, f, a, ha => by
    rcases List.mem_append.mp ha with q | q
    · exact f _ _ _ h1 a q
    · exact AllN.sub h2 f a q
theorem AllN.append {P : V → D → List Addr → Prop} : ∀ {vs ws : List V} {ds es : List D} {B C : List Addr}, AllN P vs ds B → AllN P ws es C → (∀ a ∈ B, a ∉ C) → AllN P (vs ++ ws) (ds ++ es) (B ++ C)
  | _, _, _, _, _, _, .nil, q, _ => by simpa using q
  | _, _, _, _, _, _, .cons h1 h2 h3, q, hd => by
    have := AllN.cons h1 (AllN.append h2 q fun a ha => hd a (List.mem_append_right _ ha)) fun a ha hb => by
      rcases List.mem_append.mp hb with z | z
      · exact h3 a ha z
      · exact hd a (List.mem_append_left _ ha) z
    simpa [List.append_assoc] using this

theorem Own.zero {K : Fr} {F H : Hp} {v : V} {d : D} {B : List Addr} : Own K F H 0 v d B ↔ Dp K F v d ∧ B = [] := by
  unfold Own
  exact Iff.rfl
theorem Own.froz0 {K : Fr} {F H : Hp} {v : V} {d : D} (h : Dp K F v d) : Own K F H 0 v d [] := Own.zero.mpr ⟨h, rfl⟩
theorem Own.froz {K : Fr} {F H : Hp} {n : Nat} {v : V} {d : D} (h : Dp K F v d) (hd : isLD d = false) : Own K F H n v d [] := by
  cases n with
  | zero => exact Own.froz0 h
  | succ n =>
    unfold Own
    exact .inl ⟨h, rfl, hd⟩
theorem Own.lst {K : Fr} {F H : Hp} {n : Nat} {a : Addr} {vs : List V} {ds : List D} {B : List Addr} (h1 : H a = some (.lst vs)) (h2 : F a = none) (h3 : a ∉ B) (h4 : AllN (Own K F H n) vs ds B) : Own K F H (n + 1) (.ref a) (.list ds) (a :: B) := by
  unfold Own
  exact .inr (.inl ⟨a, vs, ds, B, rfl, rfl, rfl, h1, h2, h3, h4⟩)
/-- a cell that is owned stands, and is not frozen -/
theorem Own.cells {K : Fr} {F H : Hp} : ∀ {n : Nat} {v : V} {d : D} {B : List Addr}, Own K F H n v d B → ∀ a ∈ B, H a ≠ none ∧ F a = none
  | 0, _, _, _, h, a, ha => by
    unfold Own at h
    rw [h.2] at ha
    simp at ha
  | n + 1, _, _, _, h, a, ha => by
    unfold Own at h
    rcases h with ⟨_, e, _⟩ | ⟨p, vs, ds, B', _, _, e, h1, h2, _, h4⟩ | ⟨p, kvs, ds, B', _, _, e, h1, h2, _, h4⟩ | ⟨p, kvs, ds, B', _, _, e, h1, h2, _, h4⟩
    · rw [e] at ha
      simp at ha
    all_goals
      rw [e] at ha
      rcases List.mem_cons.mp ha with z | z
      · subst z
        exact ⟨by rw [h1]; simp, h2⟩
      · first
          | exact AllN.sub h4 (fun v d A q => Own.cells q) a z
          | (rw [h4.1] at z; simp at z)
theorem Own.later {K : Fr} {F H F2 H2 : Hp} (e : Ex F F2) : ∀ {n : Nat} {v : V} {d : D} {B : List Addr}, Own K F H n v d B → (∀ a ∈ B, H2 a = H a ∧ F2 a = none) → Own K F2 H2 n v d B
  | 0, _, _, _, h, _ => by
    unfold Own at h ⊢
    exact ⟨Dp.ex e _ _ h.1, h.2⟩
  | n + 1, _, _, _, h, k => by
    unfold Own at h ⊢
    rcases h with ⟨h, z, nl⟩ | ⟨p, vs, ds, B', e1, e2, e3, h1, h2, h3, h4⟩ | ⟨p, kvs, ds, B', e1, e2, e3, h1, h2, h3, h4⟩ | ⟨p, kvs, ds, B', e1, e2, e3, h1, h2, h3, h4⟩
    · exact .inl ⟨Dp.ex e _ _ h, z, nl⟩
    · subst e3
      have kp := k p List.mem_cons_self
      exact .inr (.inl ⟨p, vs, ds, B', e1, e2, rfl, kp.1.trans h1, kp.2, h3, AllN.imp h4 fun v d A hA q => Own.later e q fun a ha => k a (List.mem_cons_of_mem _ (hA a ha))⟩)
    · subst e3
      have kp := k p List.mem_cons_self
      exact .inr (.inr (.inl ⟨p, kvs, ds, B', e1, e2, rfl, kp.1.trans h1, kp.2, h3, AllN.imp h4 fun v d A hA q => Own.later e q fun a ha => k a (List.mem_cons_of_mem _ (hA a ha))⟩))
    · subst e3
      have kp := k p List.mem_cons_self
      exact .inr (.inr (.inr ⟨p, kvs, ds, B', e1, e2, rfl, kp.1.trans h1, kp.2, h3, h4.1, fun q hq => Dp.ex e _ _ (h4.2 q hq)⟩))
theorem allN_zero {K : Fr} {F H : Hp} : ∀ {vs : List V} {ds : List D} {B : List Addr}, AllN (Own K F H 0) vs ds B → DpAll K F vs ds ∧ B = []
  | _, _, _, .nil => ⟨.nil, rfl⟩
  | _, _, _, .cons h1 h2 _ => by
    unfold Own at h1
    obtain ⟨q1, q2⟩ := allN_zero h2
    exact ⟨.cons h1.1 q1, by rw [h1.2, q2]; rfl⟩
theorem allN_of_dp {K : Fr} {F H : Hp} : ∀ {ds : List D} {vs : List V}, DpAll K F vs ds → AllN (Own K F H 0) vs ds []
  | [], _, h => by
    cases h
    exact .nil
  | d :: ds, _, h => by
    cases h with
    | cons h1 h2 =>
      have := AllN.cons (P := Own K F H 0) (Own.froz0 h1) (allN_of_dp h2) (fun a ha => by simp at ha)
      simpa using this
-- no dict in it
mutual
def noDict : D → Bool
  | .dict _ => false
  | .list ds => noDicts ds
  | .tuple ds => noDicts ds
  | _ => true
def noDicts : List D → Bool
  | [] => true
  | d :: ds => noDict d && noDicts ds
end
/-- what is owned can be read as it stands -/
theorem Own.dp {K : Fr} {F H : Hp} (e : Ex F H) : ∀ {n : Nat} {v : V} {d : D} {B : List Addr}, Own K F H n v d B → (∀ kvs, d ≠ .dict kvs) ∨ True → noDict d = true → Dp K H v d
  | 0, v, d, B, h, _, _ => by
    unfold Own at h
    exact Dp.ex e _ _ h.1
  | n + 1, v, d, B, h, _, nd => by
    unfold Own at h
    rcases h with ⟨h, _⟩ | ⟨p, vs, ds, B', e1, e2, e3, h1, h2, h3, h4⟩ | ⟨p, kvs, ds, B', e1, e2, e3, h1, h2, h3, h4⟩ | ⟨p, kvs, ds, B', e1, e2, e3, h1, h2, h3, h4⟩
    · exact Dp.ex e _ _ h
    · subst e1 e2
      have nd' : noDicts ds = true := by
        unfold noDict at nd
        exact nd
      refine .lst (.inl (.inl h1)) ?_
      clear e3 h3 h1
      have go : ∀ {vs : List V} {ds : List D} {B : List Addr}, AllN (Own K F H n) vs ds B → noDicts ds = true → DpAll K H vs ds := by
        intro vs ds B hh
        induction hh with
        | nil => intro _; exact .nil
        | cons q1 q2 q3 ih =>
          intro hn
          unfold noDicts at hn
          rw [Bool.and_eq_true] at hn
          exact .cons (Own.dp e q1 (.inr trivial) hn.1) (ih hn.2)
      exact go h4 nd'
    · subst e2
      unfold noDict at nd
      cases nd
    · subst e2
      unfold noDict at nd
      cases nd
/-- freezing: what is owned becomes part of what never changes -/
def frz (F H : Hp) (B : List Addr) : Hp := fun a => if a ∈ B then H a else F a
theorem frz_in {F H : Hp} {B : List Addr} {a : Addr} (h : a ∈ B) : frz F H B a = H a := by
  unfold frz
  rw [if_pos h]
theorem frz_out {F H : Hp} {B : List Addr} {a : Addr} (h : a ∉ B) : frz F H B a = F a := by
  unfold frz
  rw [if_neg h]
theorem ex_frz {F H : Hp} {B : List Addr} (k : ∀ a ∈ B, F a = none) : Ex F (frz F H B) := fun a o e => by
  by_cases hb : a ∈ B
  · rw [k a hb] at e
    cases e
  · rw [frz_out hb]
    exact e
theorem frz_ex {F H : Hp} {B : List Addr} (e : Ex F H) : Ex (frz F H B) H := fun a o q => by
  by_cases hb : a ∈ B
  · rw [frz_in hb] at q
    exact q
  · rw [frz_out hb] at q
    exact e a o q
theorem Own.frozen {K : Fr} {F H : Hp} (C : List Addr) (hC : ∀ a ∈ C, F a = none) : ∀ {n : Nat} {v : V} {d : D} {B : List Addr}, Own K F H n v d B → (∀ a ∈ B, a ∈ C) → noDict d = true → Dp K (frz F H C) v d
  | 0, v, d, B, h, _, _ => by
    unfold Own at h
    exact Dp.ex (ex_frz hC) _ _ h.1
  | n + 1, v, d, B, h, hB, nd => by
    unfold Own at h
    rcases h with ⟨h, _⟩ | ⟨p, vs, ds, B', e1, e2, e3, h1, h2, h3, h4⟩ | ⟨p, kvs, ds, B', e1, e2, e3, h1, h2, h3, h4⟩ | ⟨p, kvs, ds, B', e1, e2, e3, h1, h2, h3, h4⟩
    · exact Dp.ex (ex_frz hC) _ _ h
    · subst e1 e2 e3
      have nd' : noDicts ds = true := by
        unfold noDict at nd
        exact nd
      refine .lst (.inl (.inl (by rw [frz_in (hB p List.mem_cons_self)]; exact h1))) ?_
      have hB' : ∀ a ∈ B', a ∈ C := fun a ha => hB a (List.mem_cons_of_mem _ ha)
      clear hB h3 h1
      have go : ∀ {vs : List V} {ds : List D} {B : List Addr}, AllN (Own K F H n) vs ds B → (∀ a ∈ B, a ∈ C) → noDicts ds = true → DpAll K (frz F H C) vs ds := by
        intro vs ds B hh
        induction hh with
        | nil => intro _ _; exact .nil
        | cons q1 q2 q3 ih =>
          intro hb hn
          unfold noDicts at hn
          rw [Bool.and_eq_true] at hn
          exact .cons (Own.frozen C hC q1 (fun a ha => hb a (List.mem_append_left _ ha)) hn.1) (ih (fun a ha => hb a (List.mem_append_right _ ha)) hn.2)
      exact go h4 hB' nd'
    · subst e2
      unfold noDict at nd
      cases nd
    · subst e2
      unfold noDict at nd
      cases nd

/-! ### the state -/
/-- dep: how deep the slots' data may be changed (0: not at all); ino: slots that stay bound to what they came with -/
structure Cfg where
  dep : Nat → Nat
  ino : List Nat
structure StOk (K : Fr) (c : Cfg) (A : Nat → List Addr) (ρ : Env) (F : Hp) (σ : L2.St) (H : Hp) : Prop where
  ex : Ex F H
  len : ρ.length = σ.length
  own : ∀ i d, ρ[i]? = some (some d) → ∃ v, σ[i]? = some (some v) ∧ Own K F H (c.dep i) v d (A i)
  no : ∀ i, (∀ d, ρ[i]? ≠ some (some d)) → A i = []
  dis : ∀ i j, i ≠ j → ∀ a ∈ A i, a ∉ A j
/-- from one state to a later one; M: the slots whose data may have changed -/
structure Nxt (M : List Nat) (A : Nat → List Addr) (F H : Hp) (A' : Nat → List Addr) (F' H' : Hp) : Prop where
  exF : Ex F F'
  grow : ∀ a, H a ≠ none → H' a ≠ none
  keep : ∀ a o, H a = some o → (∀ i, a ∉ A i) → H' a = some o ∧ (∀ i, a ∉ A' i) ∧ (F a = none → F' a = none)
  own : ∀ i, i ∉ M → A' i = A i ∧ ∀ a ∈ A i, H' a = H a
  src : ∀ i a, a ∈ A' i → (∃ j, a ∈ A j) ∨ H a = none
theorem StOk.cell {K : Fr} {c : Cfg} {A : Nat → List Addr} {ρ : Env} {F : Hp} {σ : L2.St} {H : Hp} (S : StOk K c A ρ F σ H) {i : Nat} {a : Addr} (h : a ∈ A i) : H a ≠ none ∧ F a = none := by
  cases q : ρ[i]? with
  | none =>
    have := S.no i (fun d e => by rw [q] at e; cases e)
    rw [this] at h
    simp at h
  | some o =>
    cases o with
    | none =>
      have := S.no i (fun d e => by rw [q] at e; cases e)
      rw [this] at h
      simp at h
    | some d =>
      obtain ⟨v, _, ho⟩ := S.own i d q
      exact ho.cells a h
theorem Nxt.refl {A : Nat → List Addr} {F H : Hp} : Nxt [] A F H A F H :=
  ⟨Ex.refl _, fun _ h => h, fun a o h q => ⟨h, q, fun z => z⟩, fun i _ => ⟨rfl, fun _ _ => rfl⟩, fun i a h => .inl ⟨i, h⟩⟩
theorem Nxt.mono {M M' : List Nat} {A A' : Nat → List Addr} {F H F' H' : Hp} (n : Nxt M A F H A' F' H') (h : ∀ i ∈ M, i ∈ M') : Nxt M' A F H A' F' H' :=
  ⟨n.exF, n.grow, n.keep, fun i hi => n.own i fun z => hi (h i z), n.src⟩
theorem Nxt.trans {M M2 : List Nat} {A A1 A2 : Nat → List Addr} {F H F1 H1 F2 H2 : Hp} (n : Nxt M A F H A1 F1 H1) (m : Nxt M2 A1 F1 H1 A2 F2 H2) : Nxt (M ++ M2) A F H A2 F2 H2 where
  exF := n.exF.trans m.exF
  grow := fun a h => m.grow a (n.grow a h)
  keep := fun a o h q => by
    obtain ⟨h1, q1, z1⟩ := n.keep a o h q
    obtain ⟨h2, q2, z2⟩ := m.keep a o h1 q1
    exact ⟨h2, q2, fun z => z2 (z1 z)⟩
  own := fun i hi => by
    have h1 : i ∉ M := fun z => hi (List.mem_append_left _ z)
    have h2 : i ∉ M2 := fun z => hi (List.mem_append_right _ z)
    obtain ⟨e1, k1⟩ := n.own i h1
    obtain ⟨e2, k2⟩ := m.own i h2
    exact ⟨e2.trans e1, fun a ha => (k2 a (by rw [e1]; exact ha)).trans (k1 a ha)⟩
  src := fun i a h => by
    rcases m.src i a h with ⟨j, hj⟩ | hn
    · exact n.src j a hj
    · refine .inr ?_
      cases q : H a with
      | none => rfl
      | some o => exact absurd hn (n.grow a (by rw [q]; simp))
/-- what an expression gives: its cells are nobody's (and were nobody's that stood elsewhere), or those of the slots deps -/
def Res (K : Fr) (A : Nat → List Addr) (H : Hp) (deps : List Nat) (n : Nat) (A' : Nat → List Addr) (F' H' : Hp) (v : V) (d : D) : Prop :=
  ∃ B, Own K F' H' n v d B ∧ ∀ a ∈ B, ((∀ i, a ∉ A' i) ∧ ((∃ i, a ∈ A i) ∨ H a = none)) ∨ ∃ i ∈ deps, a ∈ A' i
theorem Res.later {K : Fr} {c : Cfg} {A A1 A2 : Nat → List Addr} {F1 H H1 F2 H2 : Hp} {deps M : List Nat} {n : Nat} {v : V} {d : D} {ρ2 : Env} {σ : L2.St}
    (r : Res K A H deps n A1 F1 H1 v d) (m : Nxt M A1 F1 H1 A2 F2 H2) (S : StOk K c A2 ρ2 F2 σ H2) (hd : ∀ i ∈ deps, i ∉ M) : Res K A H deps n A2 F2 H2 v d := by
  obtain ⟨B, ho, hB⟩ := r
  have hc := ho.cells
  refine ⟨B, ho.later m.exF fun a ha => ?_, fun a ha => ?_⟩
  · obtain ⟨h1, h2⟩ := hc a ha
    cases q : H1 a with
    | none => exact absurd q h1
    | some o =>
      rcases hB a ha with ⟨z, _⟩ | ⟨i, hi, hai⟩
      · obtain ⟨k1, k2, k3⟩ := m.keep a o q z
        exact ⟨k1, k3 h2⟩
      · obtain ⟨e1, k⟩ := m.own i (hd i hi)
        exact ⟨(k a hai).trans q, (S.cell (i := i) (by rw [e1]; exact hai)).2⟩
  · obtain ⟨h1, h2⟩ := hc a ha
    cases q : H1 a with
    | none => exact absurd q h1
    | some o =>
      rcases hB a ha with ⟨z, p⟩ | ⟨i, hi, hai⟩
      · obtain ⟨k1, k2, k3⟩ := m.keep a o q z
        exact .inl ⟨k2, p⟩
      · obtain ⟨e1, k⟩ := m.own i (hd i hi)
        exact .inr ⟨i, hi, by rw [e1]; exact hai⟩
/-- provenance moved back -/
theorem Res.back {K : Fr} {A A1 A2 : Nat → List Addr} {F H F1 H1 F2 H2 : Hp} {deps M : List Nat} {n : Nat} {v : V} {d : D} (m : Nxt M A F H A1 F1 H1) (r : Res K A1 H1 deps n A2 F2 H2 v d) : Res K A H deps n A2 F2 H2 v d := by
  obtain ⟨B, ho, hB⟩ := r
  refine ⟨B, ho, fun a ha => ?_⟩
  rcases hB a ha with ⟨z, p⟩ | p
  · refine .inl ⟨z, ?_⟩
    rcases p with ⟨i, hi⟩ | p
    · exact m.src i a hi
    · refine .inr ?_
      cases q : H a with
      | none => rfl
      | some o => exact absurd p (m.grow a (by rw [q]; simp))
  · exact .inr p
/-- new things alone -/
structure Gr (F H F' H' : Hp) : Prop where
  exF : Ex F F'
  exH : Ex H H'
  fh : Ex F' H'
  old : ∀ a, H a ≠ none → F' a = F a
theorem Gr.refl {F H : Hp} (e : Ex F H) : Gr F H F H := ⟨Ex.refl _, Ex.refl _, e, fun _ _ => rfl⟩
theorem ex_ne {H H' : Hp} (e : Ex H H') {a : Addr} (h : H a ≠ none) : H' a = H a := by
  cases q : H a with
  | none => exact absurd q h
  | some o => exact e a o q
theorem Gr.trans {F H F1 H1 F2 H2 : Hp} (a : Gr F H F1 H1) (b : Gr F1 H1 F2 H2) : Gr F H F2 H2 :=
  ⟨a.exF.trans b.exF, a.exH.trans b.exH, b.fh, fun x h => (b.old x (by rw [ex_ne a.exH h]; exact h)).trans (a.old x h)⟩
theorem StOk.grown {K : Fr} {c : Cfg} {A : Nat → List Addr} {ρ : Env} {F F' : Hp} {σ : L2.St} {H H' : Hp} (S : StOk K c A ρ F σ H) (g : Gr F H F' H') : StOk K c A ρ F' σ H' :=
  ⟨g.fh, S.len, fun i d e => by
    obtain ⟨v, h1, h2⟩ := S.own i d e
    exact ⟨v, h1, h2.later g.exF fun a ha => by
      obtain ⟨k1, k2⟩ := h2.cells a ha
      exact ⟨ex_ne g.exH k1, (g.old a k1).trans k2⟩⟩, S.no, S.dis⟩
theorem Nxt.grown {A : Nat → List Addr} {F H F' H' : Hp} (g : Gr F H F' H') (hA : ∀ i a, a ∈ A i → H a ≠ none) : Nxt [] A F H A F' H' :=
  ⟨g.exF, fun a h => by rw [ex_ne g.exH h]; exact h, fun a o h q => ⟨g.exH a o h, q, fun z => (g.old a (by rw [h]; simp)).trans z⟩,
    fun i _ => ⟨rfl, fun a ha => ex_ne g.exH (hA i a ha)⟩, fun i a h => .inl ⟨i, h⟩⟩
theorem Own.grown {K : Fr} {F H F' H' : Hp} {n : Nat} {v : V} {d : D} {B : List Addr} (g : Gr F H F' H') (h : Own K F H n v d B) : Own K F' H' n v d B :=
  h.later g.exF fun a ha => by
    obtain ⟨k1, k2⟩ := h.cells a ha
    exact ⟨ex_ne g.exH k1, (g.old a k1).trans k2⟩
theorem Gr.newTup {F H : Hp} {p : Addr} {o : HO} (e : Ex F H) (h : H p = none) : Gr F H (upd F p o) (upd H p o) :=
  ⟨Ex.new (ex_none e h), Ex.new h, fun a u q => by
    by_cases hp : a = p
    · subst hp
      rw [upd_same] at q ⊢
      exact q
    · rw [upd_ne hp] at q ⊢
      exact e a u q, fun a ha => by
    have hp : a ≠ p := fun z => ha (by rw [z]; exact h)
    rw [upd_ne hp]⟩
theorem Gr.newLst {F H : Hp} {p : Addr} {o : HO} (e : Ex F H) (h : H p = none) : Gr F H F (upd H p o) :=
  ⟨Ex.refl _, Ex.new h, e.trans (Ex.new h), fun _ _ => rfl⟩
end DL

set_option Elab.async false
set_option linter.all false
set_option maxRecDepth 100000
set_option maxHeartbeats 2000000
namespace DL
open PySem L2 PyProof.Rows
abbrev GE := Env → Option (D × Env)
abbrev GT := Env → Option (Bool × Env)
def tD (K : Fr) (c : Cfg) (n : Nat) (deps M : List Nat) (g : GE) : TE := fun σ H Q => ∃ A F ρ d ρ', StOk K c A ρ F σ H ∧ g ρ = some (d, ρ') ∧
  ∀ v A' F' H', StOk K c A' ρ' F' σ H' → Nxt M A F H A' F' H' → Res K A H deps n A' F' H' v d → Q v H'
def tT (K : Fr) (c : Cfg) (M : List Nat) (g : GT) : TT := fun σ H Q => ∃ A F ρ d ρ', StOk K c A ρ F σ H ∧ g ρ = some (d, ρ') ∧
  ∀ A' F' H', StOk K c A' ρ' F' σ H' → Nxt M A F H A' F' H' → Q d H'
def DE (X : Cx) (c : Cfg) (e : Expr) (n : Nat) (deps M : List Nat) (g : GE) : Prop := PE X e (tD X.K c n deps M g)
def DT (X : Cx) (c : Cfg) (e : Expr) (M : List Nat) (g : GT) : Prop := PT X e (tT X.K c M g)
theorem PE.imp {X : Cx} {e : Expr} {t t' : TE} (h : PE X e t) (q : ∀ σ H Q, t' σ H Q → t σ H Q) : PE X e t' := ⟨fun pins s σ H Q I w => h.run pins s σ H Q I (q _ _ _ w)⟩
theorem PT.imp {X : Cx} {e : Expr} {t t' : TT} (h : PT X e t) (q : ∀ σ H Q, t' σ H Q → t σ H Q) : PT X e t' := ⟨fun pins s σ H Q I w => h.run pins s σ H Q I (q _ _ _ w)⟩
theorem PS.imp {X : Cx} {e : Stmt} {t t' : TS} (h : PS X e t) (q : ∀ Ds σ H, t' Ds σ H → t Ds σ H) : PS X e t' := ⟨fun pins s σ H Q I w => h.run pins s σ H Q I (q _ _ _ w)⟩
theorem PSs.imp {X : Cx} {e : List Stmt} {t t' : TS} (h : PSs X e t) (q : ∀ Ds σ H, t' Ds σ H → t Ds σ H) : PSs X e t' := ⟨fun pins s σ H Q I w => h.run pins s σ H Q I (q _ _ _ w)⟩

section
variable {X : Cx} {c : Cfg} {e a b : Expr} {n : Nat} {deps M : List Nat} {g : GE}
theorem Res.of_froz {K : Fr} {A A' : Nat → List Addr} {H F' H' : Hp} {deps : List Nat} {v : V} {d : D} (h : Dp K F' v d) : Res K A H deps 0 A' F' H' v d :=
  ⟨[], Own.froz0 h, fun a ha => by simp at ha⟩
theorem Res.of_flat {K : Fr} {A A' : Nat → List Addr} {H F' H' : Hp} {deps : List Nat} {n : Nat} {v : V} {d : D} (h : Dp K F' v d) (hd : isLD d = false) : Res K A H deps n A' F' H' v d :=
  ⟨[], Own.froz h hd, fun a ha => by simp at ha⟩
/-- to be read alone: frozen, or owned -/
def OwnL (K : Fr) (F H : Hp) (n : Nat) (v : V) (d : D) (B : List Addr) : Prop := (Dp K F v d ∧ B = []) ∨ Own K F H n v d B
theorem Own.l {K : Fr} {F H : Hp} {m n : Nat} {v : V} {d : D} {B : List Addr} (h : Own K F H m v d B) (hm : m = 0 ∨ m = n) : OwnL K F H n v d B := by
  rcases hm with rfl | rfl
  · exact .inl (Own.zero.mp h)
  · exact .inr h
theorem Res.froz0 {K : Fr} {A A' : Nat → List Addr} {H F' H' : Hp} {deps : List Nat} {v : V} {d : D} (h : Res K A H deps 0 A' F' H' v d) : Dp K F' v d := by
  obtain ⟨B, ho, _⟩ := h
  exact (Own.zero.mp ho).1

/-! ### names, constants -/
def gC (d : D) : GE := fun ρ => some (d, ρ)
theorem de_c {v : V} {d : D} (h : PE X e (tC v)) (hd : ∀ H, Dp X.K H v d) : DE X c e 0 [] [] (gC d) := by
  refine PE.imp h fun σ H Q w => ?_
  obtain ⟨A, F, ρ, d', ρ', S, eg, k⟩ := w
  cases eg
  exact k v A F H S Nxt.refl (Res.of_froz (hd _))
theorem de_int {i : Int} {j pos} : DE X c (.Constant (.int i) j pos) 0 [] [] (gC (.int i)) := de_c pe_int fun _ => .int i
theorem de_bl {i : Bool} {j pos} : DE X c (.Constant (.bool i) j pos) 0 [] [] (gC (.bool i)) := de_c pe_bl fun _ => .bl i
theorem de_non {j pos} : DE X c (.Constant .none j pos) 0 [] [] (gC .none) := de_c pe_non fun _ => .non
theorem de_str {i : Str} {j pos} : DE X c (.Constant (.str i) j pos) 0 [] [] (gC (.str i)) := de_c pe_str fun _ => .str i
def gVar (i : Nat) : GE := fun ρ => match ρ[i]? with
  | some (some d) => some (d, ρ)
  | _ => none
theorem gVar_some {i : Nat} {ρ ρ' : Env} {d : D} (h : gVar i ρ = some (d, ρ')) : ρ[i]? = some (some d) ∧ ρ' = ρ := by
  unfold gVar at h
  split at h
  · rename_i d' e
    cases h
    exact ⟨e, rfl⟩
  · cases h
/-- a name whose data does not change -/
theorem de_im {i : Nat} (h : PE X e (tVar i)) (hd : c.dep i = 0 := by rfl) : DE X c e 0 [] [] (gVar i) := by
  refine PE.imp h fun σ H Q w => ?_
  obtain ⟨A, F, ρ, d', ρ', S, eg, k⟩ := w
  obtain ⟨e1, rfl⟩ := gVar_some eg
  obtain ⟨v, hv, ho⟩ := S.own i _ e1
  rw [hd] at ho
  exact ⟨v, hv, k v A F H S Nxt.refl (Res.of_froz (Own.zero.mp ho).1)⟩
/-- a name whose data changes, read where it stands -/
theorem de_bor {i n : Nat} (h : PE X e (tVar i)) (hd : c.dep i = n := by rfl) : DE X c e n [i] [] (gVar i) := by
  refine PE.imp h fun σ H Q w => ?_
  obtain ⟨A, F, ρ, d', ρ', S, eg, k⟩ := w
  obtain ⟨e1, rfl⟩ := gVar_some eg
  obtain ⟨v, hv, ho⟩ := S.own i _ e1
  rw [hd] at ho
  exact ⟨v, hv, k v A F H S Nxt.refl ⟨A i, ho, fun a ha => .inr ⟨i, by simp, ha⟩⟩⟩
/-- .. handed on: the slot is empty from here on -/
def gMove (i : Nat) : GE := fun ρ => match ρ[i]? with
  | some (some (.list ds)) => some (.list ds, ρ.set i none)
  | _ => none
theorem gMove_some {i : Nat} {ρ ρ' : Env} {d : D} (h : gMove i ρ = some (d, ρ')) : ∃ ds, d = .list ds ∧ ρ[i]? = some (some (.list ds)) ∧ ρ' = ρ.set i none := by
  unfold gMove at h
  split at h
  · rename_i ds e
    cases h
    exact ⟨ds, rfl, e, rfl⟩
  · cases h
theorem de_move {i n : Nat} (h : PE X e (tVar i)) (hd : c.dep i = n := by rfl) : DE X c e n [] [i] (gMove i) := by
  refine PE.imp h fun σ H Q w => ?_
  obtain ⟨A, F, ρ, d', ρ', S, eg, k⟩ := w
  obtain ⟨ds, rfl, e1, rfl⟩ := gMove_some eg
  obtain ⟨v, hv, ho⟩ := S.own i _ e1
  rw [hd] at ho
  have hi : i < ρ.length := (List.getElem?_eq_some_iff.mp e1).1
  refine ⟨v, hv, k v (fun j => if j = i then [] else A j) F H ⟨S.ex, by simpa using S.len, fun j d e2 => ?_, fun j hj => ?_, fun j l hjl a ha => ?_⟩ ⟨Ex.refl _, fun _ z => z, fun a o ha hn => ⟨ha, fun j => ?_, fun z => z⟩, fun j hj => ?_, fun j a ha => ?_⟩ ⟨A i, ho, fun a ha => .inl ⟨fun j => ?_, .inl ⟨i, ha⟩⟩⟩⟩
  · by_cases hji : j = i
    · subst hji
      rw [List.getElem?_set_self hi] at e2
      cases e2
    · rw [List.getElem?_set_ne (Ne.symm hji)] at e2
      obtain ⟨w, h1, h2⟩ := S.own j d e2
      exact ⟨w, h1, by simpa [hji] using h2⟩
  · by_cases hji : j = i
    · simp [hji]
    · simp only [hji, if_false]
      refine S.no j fun d e2 => hj d ?_
      rw [List.getElem?_set_ne (Ne.symm hji)]
      exact e2
  · by_cases hji : j = i
    · simp [hji] at ha
    · simp only [hji, if_false] at ha
      by_cases hli : l = i
      · simp [hli]
      · simp only [hli, if_false]
        exact S.dis j l hjl a ha
  · by_cases hji : j = i
    · simp [hji]
    · simp only [hji, if_false]
      exact hn j
  · have : j ≠ i := fun z => hj (by simp [z])
    simp [this]
  · by_cases hji : j = i
    · simp [hji] at ha
    · simp only [hji, if_false] at ha
      exact .inl ⟨j, ha⟩
  · by_cases hji : j = i
    · simp [hji]
    · simp only [hji, if_false]
      exact fun z => S.dis j i hji a z ha

/-! ### freezing -/
def isDict : D → Bool
  | .dict _ => true
  | _ => false
def ND (g : GE) : Prop := ∀ ρ d ρ', g ρ = some (d, ρ') → isDict d = false
theorem Own.frozen1 {K : Fr} {F H : Hp} {C : List Addr} (hC : ∀ a ∈ C, F a = none) {v : V} {d : D} (h : Own K F H 1 v d C) (nd : isDict d = false) : Dp K (frz F H C) v d := by
  unfold Own at h
  rcases h with ⟨h, _⟩ | ⟨p, vs, ds, B', e1, e2, e3, h1, h2, h3, h4⟩ | ⟨p, kvs, ds, B', e1, e2, _⟩ | ⟨p, kvs, ds, B', e1, e2, _⟩
  · exact Dp.ex (ex_frz hC) _ _ h
  · subst e1 e2 e3
    obtain ⟨q1, q2⟩ := allN_zero h4
    exact .lst (.inl (.inl (by rw [frz_in List.mem_cons_self]; exact h1))) (Dp.exAll (ex_frz hC) _ _ q1)
  · subst e2
    cases nd
  · subst e2
    cases nd
theorem frz_st {K : Fr} {A A' : Nat → List Addr} {ρ : Env} {F F' H H' : Hp} {σ : L2.St} {M : List Nat} {B : List Addr} (S : StOk K c A' ρ F' σ H') (N : Nxt M A F H A' F' H') (hc : ∀ a ∈ B, H' a ≠ none ∧ F' a = none)
    (hB : ∀ a ∈ B, (∀ i, a ∉ A' i) ∧ ((∃ i, a ∈ A i) ∨ H a = none)) : StOk K c A' ρ (frz F' H' B) σ H' ∧ Nxt M A F H A' (frz F' H' B) H' := by
  have hF : ∀ a ∈ B, F' a = none := fun a ha => (hc a ha).2
  refine ⟨⟨frz_ex S.ex, S.len, fun i d e1 => ?_, S.no, S.dis⟩, ⟨N.exF.trans (ex_frz hF), N.grow, fun a o ha hn => ?_, N.own, N.src⟩⟩
  · obtain ⟨w, h1, h2⟩ := S.own i d e1
    refine ⟨w, h1, h2.later (ex_frz hF) fun a ha => ⟨rfl, ?_⟩⟩
    rw [frz_out fun z => (hB a z).1 i ha]
    exact (h2.cells a ha).2
  · obtain ⟨k1, k2, k3⟩ := N.keep a o ha hn
    refine ⟨k1, k2, fun z => ?_⟩
    rw [frz_out fun q => ?_]
    · exact k3 z
    · rcases (hB a q).2 with ⟨i, hi⟩ | hi
      · exact hn i hi
      · rw [ha] at hi
        cases hi
theorem de_frz (h : DE X c e 1 [] M g) (hd : ND g) : DE X c e 0 [] M g := by
  refine PE.imp h fun σ H Q w => ?_
  obtain ⟨A, F, ρ, d, ρ', S, eg, k⟩ := w
  refine ⟨A, F, ρ, d, ρ', S, eg, fun v A' F' H' S' N' r => ?_⟩
  obtain ⟨B, ho, hB⟩ := r
  have hB' : ∀ a ∈ B, (∀ i, a ∉ A' i) ∧ ((∃ i, a ∈ A i) ∨ H a = none) := fun a ha => by
    rcases hB a ha with z | ⟨i, hi, _⟩
    · exact z
    · simp at hi
  obtain ⟨S2, N2⟩ := frz_st S' N' ho.cells hB'
  exact k v A' _ H' S2 N2 (Res.of_froz (Own.frozen1 (fun a ha => (ho.cells a ha).2) ho (hd _ _ _ eg)))
end

/-! ### operators by values -/
structure OpD (X : Cx) (f : Value → Value → Sem Value) (n1 n2 n3 : Nat) (sem : D → D → Option D) : Prop where
  ex : ∃ r, OpR X f r ∧ ∀ F H x y dx dy d B1 B2, Ex F H → OwnL X.K F H n1 x dx B1 → OwnL X.K F H n2 y dy B2 → sem dx dy = some d →
    ∀ Q : VK, (∀ v F' H' B, Gr F H F' H' → Own X.K F' H' n3 v d B → (∀ a ∈ B, H a = none) → Q v H') → r x y H Q
structure UnD (X : Cx) (f : Value → Sem Value) (n1 n3 : Nat) (sem : D → Option D) : Prop where
  ex : ∃ r, UnR X f r ∧ ∀ F H x dx d B1, Ex F H → OwnL X.K F H n1 x dx B1 → sem dx = some d →
    ∀ Q : VK, (∀ v F' H' B, Gr F H F' H' → Own X.K F' H' n3 v d B → (∀ a ∈ B, H a = none) → Q v H') → r x H Q
def gBin (sem : D → D → Option D) (ga gb : GE) : GE := fun ρ => (ga ρ).bind fun p => (gb p.2).bind fun q => (sem p.1 q.1).map fun z => (z, q.2)
theorem gBin_some {sem : D → D → Option D} {ga gb : GE} {ρ ρ' : Env} {d : D} (h : gBin sem ga gb ρ = some (d, ρ')) : ∃ x ρ1 y, ga ρ = some (x, ρ1) ∧ gb ρ1 = some (y, ρ') ∧ sem x y = some d := by
  unfold gBin at h
  cases e1 : ga ρ with
  | none => rw [e1] at h; cases h
  | some p =>
    rw [e1] at h
    simp only [Option.bind_some] at h
    cases e2 : gb p.2 with
    | none => rw [e2] at h; cases h
    | some q =>
      rw [e2] at h
      simp only [Option.bind_some] at h
      cases e3 : sem p.1 q.1 with
      | none => rw [e3] at h; cases h
      | some z =>
        rw [e3] at h
        simp only [Option.map_some, Option.some.injEq, Prod.mk.injEq] at h
        obtain ⟨rfl, rfl⟩ := h
        exact ⟨p.1, p.2, q.1, rfl, e2, e3⟩
theorem nd_bin {sem : D → D → Option D} {ga gb : GE} (h : ∀ x y d, sem x y = some d → isDict d = false) : ND (gBin sem ga gb) := fun ρ d ρ' q => by
  obtain ⟨x, _, y, _, _, e⟩ := gBin_some q
  exact h x y d e
def gUn (sem : D → Option D) (ga : GE) : GE := fun ρ => (ga ρ).bind fun p => (sem p.1).map fun z => (z, p.2)
theorem gUn_some {sem : D → Option D} {ga : GE} {ρ ρ' : Env} {d : D} (h : gUn sem ga ρ = some (d, ρ')) : ∃ x, ga ρ = some (x, ρ') ∧ sem x = some d := by
  unfold gUn at h
  cases e1 : ga ρ with
  | none => rw [e1] at h; cases h
  | some p =>
    rw [e1] at h
    simp only [Option.bind_some] at h
    cases e3 : sem p.1 with
    | none => rw [e3] at h; cases h
    | some z =>
      rw [e3] at h
      simp only [Option.map_some, Option.some.injEq, Prod.mk.injEq] at h
      obtain ⟨rfl, rfl⟩ := h
      exact ⟨p.1, rfl, e3⟩
theorem nd_un {sem : D → Option D} {ga : GE} (h : ∀ x d, sem x = some d → isDict d = false) : ND (gUn sem ga) := fun ρ d ρ' q => by
  obtain ⟨x, _, e⟩ := gUn_some q
  exact h x d e
section
variable {X : Cx} {c : Cfg} {e a b : Expr} {n1 n2 n3 m1 m2 : Nat} {da db Ma Mb : List Nat} {ga gb : GE} {pos : Pos} {sem : D → D → Option D} {sem1 : D → Option D}
/-- the end of an operation -/
theorem fin_op {K : Fr} {A A' : Nat → List Addr} {ρ' : Env} {F H F1 H1 : Hp} {σ : L2.St} {M : List Nat} {d : D} {Q : VK} (S : StOk K c A' ρ' F1 σ H1) (N : Nxt M A F H A' F1 H1)
    (k : ∀ v A' F' H', StOk K c A' ρ' F' σ H' → Nxt M A F H A' F' H' → Res K A H [] n3 A' F' H' v d → Q v H') : ∀ v F' H' B, Gr F1 H1 F' H' → Own K F' H' n3 v d B → (∀ a ∈ B, H1 a = none) → Q v H' := fun v F' H' B gr ho hB => by
  have N2 : Nxt M A F H A' F' H' := by simpa using N.trans (Nxt.grown gr fun i a ha => (S.cell ha).1)
  refine k v A' F' H' (S.grown gr) N2 ⟨B, ho, fun a ha => .inl ⟨fun i hi => (S.cell hi).1 (hB a ha), .inr ?_⟩⟩
  cases q : H a with
  | none => rfl
  | some o => exact absurd (hB a ha) (N.grow a (by rw [q]; simp))
theorem bin_core {K : Fr} {r : R2} {σ : L2.St} {H : Hp} {Q : VK} (w : tD K c n3 [] (Ma ++ Mb) (gBin sem ga gb) σ H Q) (hd : ∀ i ∈ da, i ∉ Mb)
    (hm : (m1 = 0 ∨ m1 = n1) ∧ (m2 = 0 ∨ m2 = n2)) (hr : ∀ F H x y dx dy d B1 B2, Ex F H → OwnL K F H n1 x dx B1 → OwnL K F H n2 y dy B2 → sem dx dy = some d →
    ∀ Q : VK, (∀ v F' H' B, Gr F H F' H' → Own K F' H' n3 v d B → (∀ a ∈ B, H a = none) → Q v H') → r x y H Q) : tOp r (tD K c m1 da Ma ga) (tD K c m2 db Mb gb) σ H Q := by
  obtain ⟨A, F, ρ, d, ρ', S, eg, k⟩ := w
  obtain ⟨x, ρ1, y, e1, e2, e3⟩ := gBin_some eg
  refine ⟨A, F, ρ, x, ρ1, S, e1, fun vx A1 F1 H1 S1 N1 r1 => ?_⟩
  refine ⟨A1, F1, ρ1, y, ρ', S1, e2, fun vy A2 F2 H2 S2 N2 r2 => ?_⟩
  obtain ⟨B1, o1, _⟩ := r1.later N2 S2 hd
  obtain ⟨B2, o2, _⟩ := r2
  exact hr F2 H2 vx vy x y d B1 B2 S2.ex (o1.l hm.1) (o2.l hm.2) e3 Q (fin_op S2 (N1.trans N2) k)
theorem de_bin {op : Operator} (ho : OpD X (binaryOp op) n1 n2 n3 sem) (ha : DE X c a m1 da Ma ga) (hb : DE X c b m2 db Mb gb) (hm : (m1 = 0 ∨ m1 = n1) ∧ (m2 = 0 ∨ m2 = n2) := by decide) (hd : ∀ i ∈ da, i ∉ Mb := by decide) : DE X c (.BinOp a op b pos) n3 [] (Ma ++ Mb) (gBin sem ga gb) := by
  obtain ⟨r, hr, h⟩ := ho.ex
  exact PE.imp (pe_op hr ha hb) fun σ H Q w => bin_core w hd hm h
theorem de_cmp {op : CmpOp} (ho : OpD X (compareOp op) n1 n2 n3 sem) (ha : DE X c a m1 da Ma ga) (hb : DE X c b m2 db Mb gb) (hm : (m1 = 0 ∨ m1 = n1) ∧ (m2 = 0 ∨ m2 = n2) := by decide) (hk : behindInMarks op b = false := by first | exact nomark _ | rfl) (hd : ∀ i ∈ da, i ∉ Mb := by decide) : DE X c (.Compare a [op] [b] pos) n3 [] (Ma ++ Mb) (gBin sem ga gb) := by
  obtain ⟨r, hr, h⟩ := ho.ex
  exact PE.imp (pe_cmpR hr ha hb hk) fun σ H Q w => bin_core w hd hm h
theorem de_un {op : UnaryOp} (ho : UnD X (unaryOp op) n1 n3 sem1) (ha : DE X c a m1 da Ma ga) (hm : m1 = 0 ∨ m1 = n1 := by decide) : DE X c (.UnaryOp op a pos) n3 [] Ma (gUn sem1 ga) := by
  obtain ⟨r, hr, h⟩ := ho.ex
  refine PE.imp (pe_un hr ha) fun σ H Q w => ?_
  obtain ⟨A, F, ρ, d, ρ', S, eg, k⟩ := w
  obtain ⟨x, e1, e3⟩ := gUn_some eg
  refine ⟨A, F, ρ, x, ρ', S, e1, fun vx A1 F1 H1 S1 N1 r1 => ?_⟩
  obtain ⟨B1, o1, _⟩ := r1
  exact h F1 H1 vx x d B1 S1.ex (o1.l hm) e3 Q (fin_op S1 N1 k)

/-! ### tests -/
def asB : D → Option Bool
  | .bool b => some b
  | _ => none
def gT (g : GE) : GT := fun ρ => (g ρ).bind fun p => (asB p.1).map fun b => (b, p.2)
theorem gT_some {g : GE} {ρ ρ' : Env} {b : Bool} (h : gT g ρ = some (b, ρ')) : g ρ = some (.bool b, ρ') := by
  unfold gT at h
  cases e1 : g ρ with
  | none => rw [e1] at h; cases h
  | some p =>
    rw [e1] at h
    obtain ⟨d, ρ1⟩ := p
    simp only [Option.bind_some] at h
    cases d <;> simp [asB] at h
    obtain ⟨rfl, rfl⟩ := h
    rfl
theorem dp_bool {K : Fr} {F : Hp} {v : V} {b : Bool} (h : Dp K F v (.bool b)) : v = .bl b := by
  cases h
  rfl
theorem Own.bool {K : Fr} {F H : Hp} {n : Nat} {v : V} {b : Bool} {B : List Addr} (h : Own K F H n v (.bool b) B) : v = .bl b := by
  cases n with
  | zero => exact dp_bool (Own.zero.mp h).1
  | succ n =>
    unfold Own at h
    rcases h with ⟨h, _⟩ | ⟨_, _, _, _, _, e, _⟩ | ⟨_, _, _, _, _, e, _⟩ | ⟨_, _, _, _, _, e, _⟩
    · exact dp_bool h
    all_goals cases e
theorem dt_cmp {op : CmpOp} (ho : OpD X (compareOp op) n1 n2 n3 sem) (ha : DE X c a m1 da Ma ga) (hb : DE X c b m2 db Mb gb) (hm : (m1 = 0 ∨ m1 = n1) ∧ (m2 = 0 ∨ m2 = n2) := by decide) (hk : behindInMarks op b = false := by first | exact nomark _ | rfl) (hd : ∀ i ∈ da, i ∉ Mb := by decide) : DT X c (.Compare a [op] [b] pos) (Ma ++ Mb) (gT (gBin sem ga gb)) := by
  obtain ⟨r, hr, h⟩ := ho.ex
  refine PT.imp (pt_cmpR hr ha hb hk) fun σ H Q w => ?_
  obtain ⟨A, F, ρ, d, ρ', S, eg, k⟩ := w
  refine bin_core ⟨A, F, ρ, .bool d, ρ', S, gT_some eg, fun v A' F' H' S' N' r' => ?_⟩ hd hm h
  obtain ⟨B, ho', _⟩ := r'
  exact ⟨d, ho'.bool, k A' F' H' S' N'⟩
/-- any expression that gives a truth -/
theorem dt_val {g : GE} {M deps : List Nat} {n : Nat} (h : DE X c e n deps M g) (he : ∀ whole, isTrue e X.env whole = (do let v ← whole; standAt e.pos; holding [v] (truthy v)) := by intro _; rfl) : DT X c e M (gT g) := by
  refine PT.imp (pt_val h he) fun σ H Q w => ?_
  obtain ⟨A, F, ρ, d, ρ', S, eg, k⟩ := w
  refine ⟨A, F, ρ, .bool d, ρ', S, gT_some eg, fun v A' F' H' S' N' r' => ?_⟩
  obtain ⟨B, ho', _⟩ := r'
  exact ⟨d, ho'.bool, k A' F' H' S' N'⟩
/-- by truth -/
def truD : D → Option Bool
  | .none => some false
  | .bool b => some b
  | .int i => some (i != 0)
  | .list ds => some (!ds.isEmpty)
  | .tuple ds => some (!ds.isEmpty)
  | _ => none
def gTru (g : GE) : GT := fun ρ => (g ρ).bind fun p => (truD p.1).map fun b => (b, p.2)
theorem gTru_some {g : GE} {ρ ρ' : Env} {b : Bool} (h : gTru g ρ = some (b, ρ')) : ∃ d, g ρ = some (d, ρ') ∧ truD d = some b := by
  unfold gTru at h
  cases e1 : g ρ with
  | none => rw [e1] at h; cases h
  | some p =>
    rw [e1] at h
    obtain ⟨d, ρ1⟩ := p
    simp only [Option.bind_some] at h
    cases e2 : truD d with
    | none => rw [e2] at h; cases h
    | some b' =>
      rw [e2] at h
      simp only [Option.map_some, Option.some.injEq, Prod.mk.injEq] at h
      obtain ⟨rfl, rfl⟩ := h
      exact ⟨d, rfl, e2⟩
theorem isEmpty_len {α β : Type} {a : List α} {b : List β} (h : a.length = b.length) : a.isEmpty = b.isEmpty := by
  cases a <;> cases b <;> simp at h ⊢
theorem dp_truth {K : Fr} {H : Hp} {v : V} {d : D} {b : Bool} (h : Dp K H v d) (e : truD d = some b) : TruV K v H b := by
  cases d with
  | none => cases h; cases e; exact rfl
  | bool q => cases h; cases e; exact rfl
  | int i => cases h; cases e; exact rfl
  | str s => cases e
  | list ds =>
    cases h with
    | lst hs ha =>
      cases e
      exact .inl ⟨_, hs, by rw [isEmpty_len (dpAll_len ha)]⟩
  | tuple ds =>
    cases h with
    | tup hs ha =>
      cases e
      exact .inr (.inl ⟨_, SqT.of hs, by rw [isEmpty_len (dpAll_len ha)]⟩)
  | dict _ => cases e
theorem own_truth {K : Fr} {F H : Hp} {n : Nat} {v : V} {d : D} {b : Bool} {B : List Addr} (ex : Ex F H) (h : Own K F H n v d B) (e : truD d = some b) : TruV K v H b := by
  cases n with
  | zero => exact dp_truth (Dp.ex ex _ _ (Own.zero.mp h).1) e
  | succ n =>
    unfold Own at h
    rcases h with ⟨h, _⟩ | ⟨p, vs, ds, B', e1, e2, e3, h1, h2, h3, h4⟩ | ⟨_, _, _, _, _, e2, _⟩ | ⟨_, _, _, _, _, e2, _⟩
    · exact dp_truth (Dp.ex ex _ _ h) e
    · subst e1 e2
      cases e
      exact .inl ⟨_, .inl (.inl h1), by rw [isEmpty_len h4.len]⟩
    · subst e2; cases e
    · subst e2; cases e
theorem dt_tru {g : GE} {M deps : List Nat} {n : Nat} (h : DE X c e n deps M g) (he : ∀ whole, isTrue e X.env whole = (do let v ← whole; standAt e.pos; holding [v] (truthy v)) := by intro _; rfl) : DT X c e M (gTru g) := by
  refine PT.imp (pt_truth h he) fun σ H Q w => ?_
  obtain ⟨A, F, ρ, d, ρ', S, eg, k⟩ := w
  obtain ⟨dd, e1, e2⟩ := gTru_some eg
  refine ⟨A, F, ρ, dd, ρ', S, e1, fun v A' F' H' S' N' r' => ?_⟩
  obtain ⟨B, ho', _⟩ := r'
  exact ⟨d, own_truth S'.ex ho' e2, k A' F' H' S' N'⟩
def gAnd (g h : GT) : GT := fun ρ => (g ρ).bind fun p => if p.1 = true then h p.2 else some (false, p.2)
def gOr (g h : GT) : GT := fun ρ => (g ρ).bind fun p => if p.1 = true then some (true, p.2) else h p.2
def gNot (g : GT) : GT := fun ρ => (g ρ).map fun p => (!p.1, p.2)
def DW (X : Cx) (c : Cfg) (e : Expr) (M : List Nat) (g : GT) : Prop := PW X e (tT X.K c M g)
theorem PW.imp {X : Cx} {e : Expr} {t t' : TT} (h : PW X e t) (q : ∀ σ H Q, t' σ H Q → t σ H Q) : PW X e t' := ⟨fun wh pins s σ H Q I w => h.run wh pins s σ H Q I (q _ _ _ w)⟩
theorem dw_and1 {M : List Nat} {g : GT} (h : DT X c a M g) : DW X c (.BoolOp .And [a] pos) M g := pw_and1 h
theorem dw_or1 {M : List Nat} {g : GT} (h : DT X c a M g) : DW X c (.BoolOp .Or [a] pos) M g := pw_or1 h
theorem dw_and {rest : List Expr} {M M2 : List Nat} {g h : GT} (h1 : DT X c a M g) (h2 : DW X c (.BoolOp .And (b :: rest) pos) M2 h) : DW X c (.BoolOp .And (a :: b :: rest) pos) (M ++ M2) (gAnd g h) := by
  refine PW.imp (pw_and h1 h2) fun σ H Q w => ?_
  obtain ⟨A, F, ρ, d, ρ', S, eg, k⟩ := w
  unfold gAnd at eg
  cases e1 : g ρ with
  | none => rw [e1] at eg; cases eg
  | some p =>
    obtain ⟨b1, ρ1⟩ := p
    rw [e1] at eg
    simp only [Option.bind_some] at eg
    refine ⟨A, F, ρ, b1, ρ1, S, e1, fun A1 F1 H1 S1 N1 => ?_⟩
    cases b1 with
    | true =>
      rw [if_pos rfl] at eg ⊢
      exact ⟨A1, F1, ρ1, d, ρ', S1, eg, fun A2 F2 H2 S2 N2 => k A2 F2 H2 S2 (N1.trans N2)⟩
    | false =>
      rw [if_neg Bool.false_ne_true] at eg ⊢
      cases eg
      exact k A1 F1 H1 S1 (N1.mono fun i hi => List.mem_append_left _ hi)
theorem dw_or {rest : List Expr} {M M2 : List Nat} {g h : GT} (h1 : DT X c a M g) (h2 : DW X c (.BoolOp .Or (b :: rest) pos) M2 h) : DW X c (.BoolOp .Or (a :: b :: rest) pos) (M ++ M2) (gOr g h) := by
  refine PW.imp (pw_or h1 h2) fun σ H Q w => ?_
  obtain ⟨A, F, ρ, d, ρ', S, eg, k⟩ := w
  unfold gOr at eg
  cases e1 : g ρ with
  | none => rw [e1] at eg; cases eg
  | some p =>
    obtain ⟨b1, ρ1⟩ := p
    rw [e1] at eg
    simp only [Option.bind_some] at eg
    refine ⟨A, F, ρ, b1, ρ1, S, e1, fun A1 F1 H1 S1 N1 => ?_⟩
    cases b1 with
    | false =>
      rw [if_neg Bool.false_ne_true] at eg ⊢
      exact ⟨A1, F1, ρ1, d, ρ', S1, eg, fun A2 F2 H2 S2 N2 => k A2 F2 H2 S2 (N1.trans N2)⟩
    | true =>
      rw [if_pos rfl] at eg ⊢
      cases eg
      exact k A1 F1 H1 S1 (N1.mono fun i hi => List.mem_append_left _ hi)
theorem dt_w {M : List Nat} {g : GT} (h : DW X c e M g) : DT X c e M g := PW.pt h
theorem dt_not {M : List Nat} {g : GT} (h : DT X c a M g) : DT X c (.UnaryOp .Not a pos) M (gNot g) := by
  refine PT.imp (pt_not h) fun σ H Q w => ?_
  obtain ⟨A, F, ρ, d, ρ', S, eg, k⟩ := w
  unfold gNot at eg
  cases e1 : g ρ with
  | none => rw [e1] at eg; cases eg
  | some p =>
    rw [e1] at eg
    simp only [Option.map_some, Option.some.injEq, Prod.mk.injEq] at eg
    obtain ⟨rfl, rfl⟩ := eg
    exact ⟨A, F, ρ, p.1, p.2, S, e1, fun A1 F1 H1 S1 N1 => k A1 F1 H1 S1 N1⟩
/-- and, or, not as values -/
def gAndV (g h : GE) : GE := fun ρ => (gT g ρ).bind fun p => if p.1 = true then h p.2 else some (.bool false, p.2)
def gOrV (g h : GE) : GE := fun ρ => (gT g ρ).bind fun p => if p.1 = true then some (.bool true, p.2) else h p.2
def gNotV (g : GE) : GE := fun ρ => (gT g ρ).map fun p => (.bool (!p.1), p.2)
theorem de_one {op : BoolOp} {M deps : List Nat} {n : Nat} {g : GE} (h : DE X c a n deps M g) : DE X c (.BoolOp op [a] pos) n deps M g := pe_one h
theorem de_andV {rest : List Expr} {M M2 : List Nat} {g h : GE} (h1 : DE X c a n1 da M g) (h2 : DE X c (.BoolOp .And (b :: rest) pos) n2 [] M2 h) : DE X c (.BoolOp .And (a :: b :: rest) pos) n2 [] (M ++ M2) (gAndV g h) := by
  refine PE.imp (pe_and h1 h2) fun σ H Q w => ?_
  obtain ⟨A, F, ρ, d, ρ', S, eg, k⟩ := w
  unfold gAndV at eg
  cases e1 : gT g ρ with
  | none => rw [e1] at eg; cases eg
  | some p =>
    obtain ⟨b1, ρ1⟩ := p
    rw [e1] at eg
    simp only [Option.bind_some] at eg
    refine ⟨A, F, ρ, .bool b1, ρ1, S, gT_some e1, fun v A1 F1 H1 S1 N1 r1 => ?_⟩
    obtain ⟨B, ho, _⟩ := r1
    refine ⟨b1, ho.bool, ?_⟩
    cases b1 with
    | true =>
      rw [if_pos rfl] at eg ⊢
      exact ⟨A1, F1, ρ1, d, ρ', S1, eg, fun v A2 F2 H2 S2 N2 r2 => k v A2 F2 H2 S2 (N1.trans N2) (r2.back N1)⟩
    | false =>
      rw [if_neg Bool.false_ne_true] at eg ⊢
      cases eg
      exact k _ A1 F1 H1 S1 (N1.mono fun i hi => List.mem_append_left _ hi) (Res.of_flat (.bl false) rfl)
theorem de_orV {rest : List Expr} {M M2 : List Nat} {g h : GE} (h1 : DE X c a n1 da M g) (h2 : DE X c (.BoolOp .Or (b :: rest) pos) n2 [] M2 h) : DE X c (.BoolOp .Or (a :: b :: rest) pos) n2 [] (M ++ M2) (gOrV g h) := by
  refine PE.imp (pe_or h1 h2) fun σ H Q w => ?_
  obtain ⟨A, F, ρ, d, ρ', S, eg, k⟩ := w
  unfold gOrV at eg
  cases e1 : gT g ρ with
  | none => rw [e1] at eg; cases eg
  | some p =>
    obtain ⟨b1, ρ1⟩ := p
    rw [e1] at eg
    simp only [Option.bind_some] at eg
    refine ⟨A, F, ρ, .bool b1, ρ1, S, gT_some e1, fun v A1 F1 H1 S1 N1 r1 => ?_⟩
    obtain ⟨B, ho, _⟩ := r1
    refine ⟨b1, ho.bool, ?_⟩
    cases b1 with
    | false =>
      rw [if_neg Bool.false_ne_true] at eg ⊢
      exact ⟨A1, F1, ρ1, d, ρ', S1, eg, fun v A2 F2 H2 S2 N2 r2 => k v A2 F2 H2 S2 (N1.trans N2) (r2.back N1)⟩
    | true =>
      rw [if_pos rfl] at eg ⊢
      cases eg
      exact k _ A1 F1 H1 S1 (N1.mono fun i hi => List.mem_append_left _ hi) (Res.of_flat (.bl true) rfl)
theorem de_notV {M : List Nat} {g : GE} (h1 : DE X c a n1 da M g) : DE X c (.UnaryOp .Not a pos) 0 [] M (gNotV g) := by
  refine PE.imp (pe_not h1) fun σ H Q w => ?_
  obtain ⟨A, F, ρ, d, ρ', S, eg, k⟩ := w
  unfold gNotV at eg
  cases e1 : gT g ρ with
  | none => rw [e1] at eg; cases eg
  | some p =>
    rw [e1] at eg
    simp only [Option.map_some, Option.some.injEq, Prod.mk.injEq] at eg
    obtain ⟨rfl, rfl⟩ := eg
    refine ⟨A, F, ρ, .bool p.1, p.2, S, gT_some e1, fun v A1 F1 H1 S1 N1 r1 => ?_⟩
    obtain ⟨B, ho, _⟩ := r1
    exact ⟨p.1, ho.bool, k _ A1 F1 H1 S1 N1 (Res.of_froz (.bl _))⟩
def gIf (t : GT) (g h : GE) : GE := fun ρ => (t ρ).bind fun p => if p.1 = true then g p.2 else h p.2
theorem de_if {t : Expr} {M M1 M2 : List Nat} {gt : GT} {g h : GE} {n : Nat} {deps : List Nat} (ht : DT X c t M gt) (h1 : DE X c a n deps M1 g) (h2 : DE X c b n deps M2 h) : DE X c (.IfExp t a b pos) n deps (M ++ (M1 ++ M2)) (gIf gt g h) := by
  refine PE.imp (pe_ifExp ht h1 h2) fun σ H Q w => ?_
  obtain ⟨A, F, ρ, d, ρ', S, eg, k⟩ := w
  unfold gIf at eg
  cases e1 : gt ρ with
  | none => rw [e1] at eg; cases eg
  | some p =>
    obtain ⟨b1, ρ1⟩ := p
    rw [e1] at eg
    simp only [Option.bind_some] at eg
    refine ⟨A, F, ρ, b1, ρ1, S, e1, fun A1 F1 H1 S1 N1 => ?_⟩
    cases b1 with
    | true =>
      rw [if_pos rfl] at eg ⊢
      exact ⟨A1, F1, ρ1, d, ρ', S1, eg, fun v A2 F2 H2 S2 N2 r2 => k v A2 F2 H2 S2 (N1.trans (N2.mono fun i hi => List.mem_append_left _ hi)) (r2.back N1)⟩
    | false =>
      rw [if_neg Bool.false_ne_true] at eg ⊢
      exact ⟨A1, F1, ρ1, d, ρ', S1, eg, fun v A2 F2 H2 S2 N2 r2 => k v A2 F2 H2 S2 (N1.trans (N2.mono fun i hi => List.mem_append_right _ hi)) (r2.back N1)⟩
end
end DL

set_option Elab.async false
set_option linter.all false
set_option maxRecDepth 100000
set_option maxHeartbeats 2000000
namespace DL
open PySem L2 PyProof.Rows
/-! ### what owned data looks like -/
section
variable {K : Fr} {F H : Hp} {n : Nat} {v : V} {B : List Addr}
theorem OwnL.flat {d : D} (h : OwnL K F H n v d B) (hl : isLD d = false) : Dp K F v d ∧ B = [] := by
  rcases h with h | h
  · exact h
  cases n with
  | zero => exact Own.zero.mp h
  | succ n =>
    unfold Own at h
    rcases h with ⟨h, e, _⟩ | ⟨_, _, ds, _, _, e, _⟩ | ⟨_, _, _, _, _, e, _⟩ | ⟨_, _, _, _, _, e, _⟩
    · exact ⟨h, e⟩
    all_goals (rw [e] at hl; cases hl)
theorem OwnL.int {i : Int} (h : OwnL K F H n v (.int i) B) : v = .int i := by
  obtain ⟨h, _⟩ := h.flat rfl
  cases h
  rfl
theorem OwnL.str {x : Str} (h : OwnL K F H n v (.str x) B) : v = .str x := by
  obtain ⟨h, _⟩ := h.flat rfl
  cases h
  rfl
theorem OwnL.bool {x : Bool} (h : OwnL K F H n v (.bool x) B) : v = .bl x := by
  obtain ⟨h, _⟩ := h.flat rfl
  cases h
  rfl
theorem OwnL.none (h : OwnL K F H n v .none B) : v = .non := by
  obtain ⟨h, _⟩ := h.flat rfl
  cases h
  rfl
theorem OwnL.tup {ds : List D} (h : OwnL K F H n v (.tuple ds) B) : ∃ a vs, v = .ref a ∧ F a = some (.tup vs) ∧ DpAll K F vs ds := by
  obtain ⟨h, _⟩ := h.flat rfl
  cases h with
  | tup hs ha => exact ⟨_, _, rfl, hs, ha⟩
theorem OwnL.lst1 (e : Ex F H) {ds : List D} (h : OwnL K F H 1 v (.list ds) B) : ∃ a vs, v = .ref a ∧ SqL K H a vs ∧ DpAll K F vs ds := by
  rcases h with ⟨h, _⟩ | h
  · cases h with
    | lst hs ha => exact ⟨_, _, rfl, ex_l e hs, ha⟩
  unfold Own at h
  rcases h with ⟨_, _, h⟩ | ⟨p, vs, ds', B', e1, e2, e3, h1, h2, h3, h4⟩ | ⟨_, _, _, _, _, e, _⟩ | ⟨_, _, _, _, _, e, _⟩
  · cases h
  · cases e2
    exact ⟨p, vs, e1, .inl (.inl h1), (allN_zero h4).1⟩
  · cases e
  · cases e
theorem OwnL.dp1 (e : Ex F H) {d : D} (h : OwnL K F H 1 v d B) (nd : isDict d = false) : Dp K H v d := by
  cases d with
  | list ds =>
    obtain ⟨a, vs, rfl, hs, ha⟩ := h.lst1 e
    exact .lst hs (Dp.exAll e _ _ ha)
  | dict _ => cases nd
  | none => exact Dp.ex e _ _ (h.flat rfl).1
  | bool _ => exact Dp.ex e _ _ (h.flat rfl).1
  | int _ => exact Dp.ex e _ _ (h.flat rfl).1
  | str _ => exact Dp.ex e _ _ (h.flat rfl).1
  | tuple _ => exact Dp.ex e _ _ (h.flat rfl).1
abbrev KQ (K : Fr) (F H : Hp) (n : Nat) (d : D) (Q : VK) : Prop := ∀ v F' H' B, Gr F H F' H' → Own K F' H' n v d B → (∀ a ∈ B, H a = none) → Q v H'
theorem KQ.flat {d : D} {Q : VK} (k : KQ K F H n d Q) (e : Ex F H) (h : Dp K F v d) (hd : isLD d = false := by rfl) : Q v H := k v F H [] (Gr.refl e) (Own.froz h hd) (by simp)
theorem KQ.froz {d : D} {Q : VK} (k : KQ K F H 0 d Q) (e : Ex F H) (h : Dp K F v d) : Q v H := k v F H [] (Gr.refl e) (Own.froz0 h) (by simp)
theorem KQ.tup {vs : List V} {ds : List D} {Q : VK} (k : KQ K F H n (.tuple ds) Q) (e : Ex F H) (h : DpAll K F vs ds) {p : Addr} (hp : H p = none) : Q (.ref p) (upd H p (.tup vs)) :=
  k _ _ _ [] (Gr.newTup e hp) (Own.froz (.tup upd_same (Dp.exAll (Ex.new (ex_none e hp)) _ _ h)) rfl) (by simp)
theorem KQ.lst {vs : List V} {ds : List D} {Q : VK} (k : KQ K F H 1 (.list ds) Q) (e : Ex F H) (h : DpAll K F vs ds) {p : Addr} (hp : H p = none) : Q (.ref p) (upd H p (.lst vs)) :=
  k _ _ _ [p] (Gr.newLst e hp) (Own.lst upd_same (ex_none e hp) (by simp) (allN_of_dp h)) (by simp [hp])
end
/-! ### lists by + -/
def rCatL (K : Fr) : R2 := fun x y H Q => ∃ l b xs zs, x = .ref l ∧ y = .ref b ∧ SqL K H l xs ∧ SqL K H b zs ∧ xs.length + zs.length ≤ sizeLine ∧ ∀ p, H p = none → Q (.ref p) (upd H p (.lst (xs ++ zs)))
theorem op_catL {X : Cx} : OpR X (binaryOp .Add) (rCatL X.K) := by
  intro pins s σ H x y v u Q I rx ry h
  obtain ⟨l, b, xs, zs, rfl, rfl, hH, hB, hz, q⟩ := h
  cases rx
  cases ry
  obtain ⟨its, r, p1, _⟩ := I.list hH
  obtain ⟨its2, r2, p2, _⟩ := I.list hB
  obtain ⟨⟨cls, dd, data, sl⟩, ho, hc, n, hd⟩ := id p1.isList
  obtain ⟨⟨cls2, dd2, data2, sl2⟩, ho2, hc2, n2, hd2⟩ := id p2.isList
  simp only at hc hd hc2 hd2
  subst hc hd hc2 hd2
  have hl := r.length
  have hl2 := r2.length
  have e : its.toArray ++ its2.toArray = (its ++ its2).toArray := by simp
  refine concat_meets ⟨_, ho, rfl⟩ ⟨_, ho2, rfl⟩ noFill_list_add seq_list_add PySem.F.slot_list_add PySem.F.entry_list_add (PySem.F.args_list_add_2 _ _) (list_addW l b its.toArray its2.toArray n n2 dd dd2 sl sl2 (by simp only [List.size_toArray]; omega)) ⟨ho, ho2, ?_⟩
  rw [e]
  exact ⟨.ref _, _, I.lnew (t' := s.toks) (r.append r2) (by rw [List.length_append]; omega), rfl, q _ I.fresh⟩
section
variable {X : Cx}
/-! ### whole numbers -/
def iD (g : Int → Int → Int) : D → D → Option D
  | .int i, .int j => some (.int (g i j))
  | _, _ => none
def iCD (cb : Int → Int → Bool) (g : Int → Int → Int) : D → D → Option D
  | .int i, .int j => if cb i j = true then some (.int (g i j)) else none
  | _, _ => none
theorem nd_iD {g : Int → Int → Int} : ∀ x y d, iD g x y = some d → isDict d = false := fun x y d h => by
  cases x <;> cases y <;> simp [iD] at h
  subst h
  rfl
theorem nd_iCD {cb : Int → Int → Bool} {g : Int → Int → Int} : ∀ x y d, iCD cb g x y = some d → isDict d = false := fun x y d h => by
  cases x <;> cases y <;> simp [iCD] at h
  obtain ⟨_, h⟩ := h
  subst h
  rfl
theorem od_I0 {f : Value → Value → Sem Value} {g : Int → Int → Int} (h : OpR X f (rI0 fun i j => .int (g i j))) : OpD X f 0 0 0 (iD g) := ⟨_, h, fun F H x y dx dy d B1 B2 e ox oy hs Q k => by
  cases dx <;> cases dy <;> simp [iD] at hs
  subst hs
  rw [ox.int, oy.int]
  exact ⟨_, _, rfl, rfl, KQ.flat k e (.int _)⟩⟩
theorem od_IC {f : Value → Value → Sem Value} {C : Int → Int → Prop} {cb : Int → Int → Bool} {g : Int → Int → Int} (h : OpR X f (rI C fun i j => .int (g i j))) (hc : ∀ i j, cb i j = true → C i j) : OpD X f 0 0 0 (iCD cb g) := ⟨_, h, fun F H x y dx dy d B1 B2 e ox oy hs Q k => by
  cases dx <;> cases dy <;> simp [iCD] at hs
  obtain ⟨hcb, rfl⟩ := hs
  rw [ox.int, oy.int]
  exact ⟨_, _, rfl, rfl, hc _ _ hcb, KQ.flat k e (.int _)⟩⟩
def small64b (i : Int) : Bool := decide (-18446744073709551616 < i) && decide (i < 18446744073709551616)
def mulC (i j : Int) : Bool := small64b i || small64b j
theorem mulC_ok {i j : Int} (h : mulC i j = true) : CMul i j := by
  unfold mulC small64b at h
  simp only [Bool.or_eq_true, Bool.and_eq_true, decide_eq_true_eq] at h
  have e : (2 : Int) ^ 64 = 18446744073709551616 := by decide
  unfold CMul
  rw [e]
  omega
def divC (_ j : Int) : Bool := decide (0 < j) && decide (j < 18446744073709551616)
theorem divC_ok {i j : Int} (h : divC i j = true) : CDivW i j := by
  unfold divC at h
  simp only [Bool.and_eq_true, decide_eq_true_eq] at h
  have e : (2 : Nat) ^ 64 = 18446744073709551616 := by decide
  exact wide_div (b := 64) h.1 (by omega) (by decide) (by decide)
def modC (_ j : Int) : Bool := decide (0 < j)
def powC (i j : Int) : Bool := decide (0 ≤ j) && decide (j ≤ 1000) && small64b i
theorem powC_ok {i j : Int} (h : powC i j = true) : CPow i j := by
  unfold powC small64b at h
  simp only [Bool.and_eq_true, decide_eq_true_eq] at h
  have e : (2 : Nat) ^ 64 = 18446744073709551616 := by decide
  unfold CPow
  rw [e]
  omega
def shrC (_ j : Int) : Bool := decide (0 ≤ j)
abbrev subD := iD (fun i j => i - j)
abbrev mulI := iCD mulC (fun i j => i * j)
abbrev divD := iCD divC (fun i j => i / j)
abbrev modD := iCD modC (fun i j => i % j)
abbrev powD := iCD powC (fun i j => i ^ j.toNat)
abbrev shlD := iCD powC (fun i j => i * 2 ^ j.toNat)
abbrev shrD := iCD shrC (fun i j => i / 2 ^ j.toNat)
abbrev andD := iD Builtin.bitAnd
abbrev orD := iD Builtin.bitOr
abbrev xorD := iD Builtin.bitXor
theorem od_sub : OpD X (binaryOp .Sub) 0 0 0 subD := od_I0 op_sub
theorem od_mulI : OpD X (binaryOp .Mult) 0 0 0 mulI := od_IC op_mul fun _ _ => mulC_ok
theorem od_div : OpD X (binaryOp .FloorDiv) 0 0 0 divD := od_IC op_fdivW fun _ _ => divC_ok
theorem od_mod : OpD X (binaryOp .Mod) 0 0 0 modD := od_IC op_mod fun _ _ h => by unfold modC at h; exact of_decide_eq_true h
theorem od_pow : OpD X (binaryOp .Pow) 0 0 0 powD := od_IC op_pow fun _ _ => powC_ok
theorem od_shl : OpD X (binaryOp .LShift) 0 0 0 shlD := od_IC op_shl fun _ _ => powC_ok
theorem od_shr : OpD X (binaryOp .RShift) 0 0 0 shrD := od_IC op_shr fun _ _ h => by unfold shrC at h; exact of_decide_eq_true h
theorem od_and : OpD X (binaryOp .BitAnd) 0 0 0 andD := od_I0 op_and
theorem od_or : OpD X (binaryOp .BitOr) 0 0 0 orD := od_I0 op_or
theorem od_xor : OpD X (binaryOp .BitXor) 0 0 0 xorD := od_I0 op_xor
theorem oi_add : OpD X (inplaceOp .Add) 0 0 0 (iD fun i j => i + j) := od_I0 iop_add
theorem oi_sub : OpD X (inplaceOp .Sub) 0 0 0 subD := od_I0 iop_sub
theorem oi_and : OpD X (inplaceOp .BitAnd) 0 0 0 andD := od_I0 iop_and
theorem oi_or : OpD X (inplaceOp .BitOr) 0 0 0 orD := od_I0 iop_or
theorem oi_xor : OpD X (inplaceOp .BitXor) 0 0 0 xorD := od_I0 iop_xor
def iU (g : Int → Int) : D → Option D
  | .int i => some (.int (g i))
  | _ => none
theorem ud_I {f : Value → Sem Value} {g : Int → Int} (h : UnR X f (rU fun i => .int (g i))) : UnD X f 0 0 (iU g) := ⟨_, h, fun F H x dx d B1 e ox hs Q k => by
  cases dx <;> simp [iU] at hs
  subst hs
  rw [ox.int]
  exact ⟨_, rfl, KQ.flat k e (.int _)⟩⟩
abbrev negD := iU (fun i => -i)
abbrev invD := iU Builtin.bitNot
theorem ud_neg : UnD X (unaryOp .USub) 0 0 negD := ud_I un_neg
theorem ud_inv : UnD X (unaryOp .Invert) 0 0 invD := ud_I un_inv
/-! ### + -/
def lim : Nat := 1000000
theorem lim_ok {n : Nat} (h : n ≤ lim) : n ≤ sizeLine := Nat.le_trans h (by rw [sizeLine_eq]; decide)
theorem lim_lt {n : Nat} (h : n ≤ lim) : n < sizeLine := Nat.lt_of_le_of_lt h (by rw [sizeLine_eq]; decide)
def addD : D → D → Option D
  | .int i, .int j => some (.int (i + j))
  | .str x, .str y => if x.length + y.length ≤ lim then some (.str (x ++ y)) else none
  | .tuple xs, .tuple ys => if xs.length + ys.length ≤ lim then some (.tuple (xs ++ ys)) else none
  | .list xs, .list ys => if xs.length + ys.length ≤ lim then some (.list (xs ++ ys)) else none
  | _, _ => none
theorem nd_addD : ∀ x y d, addD x y = some d → isDict d = false := fun x y d h => by
  cases x <;> cases y <;> simp [addD] at h
  all_goals (first | (obtain ⟨_, rfl⟩ := h; rfl) | (subst h; rfl))
theorem od_add : OpD X (binaryOp .Add) 1 1 1 addD := ⟨_, (op_add.or (op_add_str.or (op_catA.or op_catL))), fun F H x y dx dy d B1 B2 e ox oy hs Q k => by
  cases dx with
  | int i =>
    cases dy <;> simp [addD] at hs
    subst hs
    rw [ox.int, oy.int]
    exact .inl ⟨_, _, rfl, rfl, KQ.flat k e (.int _)⟩
  | str i =>
    cases dy <;> simp [addD] at hs
    obtain ⟨hl, rfl⟩ := hs
    rw [ox.str, oy.str]
    exact .inr (.inl ⟨_, _, rfl, rfl, lim_ok hl, KQ.flat k e (.str _)⟩)
  | tuple xs =>
    cases dy with
    | tuple ys =>
      simp [addD] at hs
      obtain ⟨hl, rfl⟩ := hs
      obtain ⟨a, vs, rfl, s1, a1⟩ := ox.tup
      obtain ⟨b, ws, rfl, s2, a2⟩ := oy.tup
      have l1 := dpAll_len a1
      have l2 := dpAll_len a2
      refine .inr (.inr (.inl ⟨a, b, vs, ws, rfl, rfl, SqT.of (e _ _ s1), SqT.of (e _ _ s2), lim_ok (by rw [l1, l2]; exact hl), fun hz => ?_, fun _ hz => ?_, fun _ _ p hp => KQ.tup k e (dpAll_append a1 a2) hp⟩))
      · subst hz
        cases a1
        exact KQ.flat k e (.tup s2 a2)
      · subst hz
        cases a2
        rw [List.append_nil] at k
        exact KQ.flat k e (.tup s1 a1)
    | _ => simp [addD] at hs
  | list xs =>
    cases dy with
    | list ys =>
      simp [addD] at hs
      obtain ⟨hl, rfl⟩ := hs
      obtain ⟨a, vs, rfl, s1, a1⟩ := ox.lst1 e
      obtain ⟨b, ws, rfl, s2, a2⟩ := oy.lst1 e
      have l1 := dpAll_len a1
      have l2 := dpAll_len a2
      exact .inr (.inr (.inr ⟨a, b, vs, ws, rfl, rfl, s1, s2, lim_ok (by rw [l1, l2]; exact hl), fun p hp => KQ.lst k e (dpAll_append a1 a2) hp⟩))
    | _ => simp [addD] at hs
  | _ => cases dy <;> simp [addD] at hs⟩
/-! ### comparisons -/
theorem nodict_shaped {d : D} (h : SeqAt.shaped d = true) : isDict d = false := by
  cases d <;> first | rfl | (simp [SeqAt.shaped, PyData.canLay0] at h)
def eqD (x y : D) : Option D := if SeqAt.shaped x = true ∧ SeqAt.shaped y = true then some (.bool (PyData.eqv x y)) else none
def neD (x y : D) : Option D := if SeqAt.shaped x = true ∧ SeqAt.shaped y = true then some (.bool (!PyData.eqv x y)) else none
theorem od_eq (hu : X.A.units + 64 < cLine) : OpD X (compareOp .Eq) 1 1 0 eqD := ⟨_, op_eqD hu, fun F H x y dx dy d B1 B2 e ox oy hs Q k => by
  unfold eqD at hs
  split at hs
  · rename_i hh
    cases hs
    exact ⟨dx, dy, (ox.dp1 e (nodict_shaped hh.1)).to, (oy.dp1 e (nodict_shaped hh.2)).to, hh.1, hh.2, KQ.flat k e (.bl _)⟩
  · cases hs⟩
theorem od_ne (hu : X.A.units + 64 < cLine) : OpD X (compareOp .NotEq) 1 1 0 neD := ⟨_, op_neD hu, fun F H x y dx dy d B1 B2 e ox oy hs Q k => by
  unfold neD at hs
  split at hs
  · rename_i hh
    cases hs
    exact ⟨dx, dy, (ox.dp1 e (nodict_shaped hh.1)).to, (oy.dp1 e (nodict_shaped hh.2)).to, hh.1, hh.2, KQ.flat k e (.bl _)⟩
  · cases hs⟩
def intsOf : List D → Option (List Int)
  | [] => some []
  | .int i :: r => (intsOf r).map (i :: ·)
  | _ => none
theorem intsOf_dp {K : Fr} {H : Hp} : ∀ {ds : List D} {vs : List V} {ns : List Int}, DpAll K H vs ds → intsOf ds = some ns → vs = ns.map V.int
  | [], _, ns, h, e => by
    cases h
    simp [intsOf] at e
    subst e
    rfl
  | d :: ds, _, ns, h, e => by
    cases h with
    | cons h1 h2 =>
      cases d <;> simp [intsOf] at e
      obtain ⟨a, e1, e2⟩ := e
      cases h1
      rw [intsOf_dp h2 e1, ← e2]
      rfl
def ltD : D → D → Option D
  | .int i, .int j => some (.bool (decide (i < j)))
  | .tuple xs, .tuple ys => (intsOf xs).bind fun a => (intsOf ys).map fun b => .bool (HT.lexLt a b)
  | _, _ => none
theorem od_lt (hu : X.A.units < cLine) : OpD X (compareOp .Lt) 0 0 0 ltD := ⟨_, op_lt.or (op_ltT hu), fun F H x y dx dy d B1 B2 e ox oy hs Q k => by
  cases dx with
  | int i =>
    cases dy <;> simp [ltD] at hs
    subst hs
    rw [ox.int, oy.int]
    exact .inl ⟨_, _, rfl, rfl, KQ.flat k e (.bl _)⟩
  | tuple xs =>
    cases dy with
    | tuple ys =>
      simp only [ltD] at hs
      cases e1 : intsOf xs with
      | none => rw [e1] at hs; cases hs
      | some p =>
        cases e2 : intsOf ys with
        | none => rw [e1, e2] at hs; cases hs
        | some q =>
          rw [e1, e2] at hs
          cases hs
          obtain ⟨a, vs, rfl, s1, a1⟩ := ox.tup
          obtain ⟨b, ws, rfl, s2, a2⟩ := oy.tup
          rw [intsOf_dp a1 e1] at s1
          rw [intsOf_dp a2 e2] at s2
          exact .inr ⟨a, b, p, q, rfl, rfl, SqT.of (e _ _ s1), SqT.of (e _ _ s2), KQ.flat k e (.bl _)⟩
    | _ => simp [ltD] at hs
  | _ => cases dy <;> simp [ltD] at hs⟩
def bI (g : Int → Int → Bool) : D → D → Option D
  | .int i, .int j => some (.bool (g i j))
  | _, _ => none
theorem od_bI {f : Value → Value → Sem Value} {g : Int → Int → Bool} (h : OpR X f (rI0 fun i j => .bl (g i j))) : OpD X f 0 0 0 (bI g) := ⟨_, h, fun F H x y dx dy d B1 B2 e ox oy hs Q k => by
  cases dx <;> cases dy <;> simp [bI] at hs
  subst hs
  rw [ox.int, oy.int]
  exact ⟨_, _, rfl, rfl, KQ.flat k e (.bl _)⟩⟩
abbrev leD := bI (fun i j => decide (i ≤ j))
abbrev gtD := bI (fun i j => decide (j < i))
abbrev geD := bI (fun i j => decide (j ≤ i))
theorem od_le : OpD X (compareOp .LtE) 0 0 0 leD := od_bI op_le
theorem od_gt : OpD X (compareOp .Gt) 0 0 0 gtD := od_bI op_gt
theorem od_ge : OpD X (compareOp .GtE) 0 0 0 geD := od_bI op_ge
/-! ### in -/
def itemsD : D → Option (List D)
  | .list ds => some ds
  | .tuple ds => some ds
  | _ => none
def inD (neg : Bool) (x y : D) : Option D := (itemsD y).bind fun ds => if SeqAt.shaped x = true ∧ SeqAt.shaped y = true then some (.bool (xor neg (ds.any fun z => PyData.eqv z x))) else none
def rInTD (K : Fr) (neg : Bool) : R2 := fun x y H Q => ∃ d ds, L2.Dp K H x d ∧ L2.Dp K H y (.tuple ds) ∧ SeqAt.shaped d = true ∧ SeqAt.shaped (.tuple ds) = true ∧ Q (.bl (xor neg (ds.any fun z => PyData.eqv z d))) H
theorem op_inTD (hu : X.A.units + 65 < cLine) : OpR X (compareOp .In) (rInTD X.K false) := by
  intro pins s σ H x y v u Q I rx ry h
  obtain ⟨d, ds, hd, he, sd, se, q⟩ := h
  obtain ⟨as, r1⟩ := L2.Dp.reads I d x v hd rx
  obtain ⟨bs, r2⟩ := L2.Dp.reads I (.tuple ds) y u he ry
  exact SeqAt.in_tuple_reads r2 r1 (SeqAt.canLay_of_shaped se) (SeqAt.canLay_of_shaped sd) (room_in_shaped sd hu) ⟨.bl _, H, I, rfl, by simpa using q⟩
theorem op_notInTD (hu : X.A.units + 65 < cLine) : OpR X (compareOp .NotIn) (rInTD X.K true) := by
  intro pins s σ H x y v u Q I rx ry h
  obtain ⟨d, ds, hd, he, sd, se, q⟩ := h
  obtain ⟨as, r1⟩ := L2.Dp.reads I d x v hd rx
  obtain ⟨bs, r2⟩ := L2.Dp.reads I (.tuple ds) y u he ry
  exact SeqAt.notIn_tuple_reads r2 r1 (SeqAt.canLay_of_shaped se) (SeqAt.canLay_of_shaped sd) (room_in_shaped sd hu) ⟨.bl _, H, I, rfl, by simpa using q⟩
theorem od_in (hu : X.A.units + 65 < cLine) : OpD X (compareOp .In) 1 1 0 (inD false) := ⟨_, (op_inD hu).or (op_inTD hu), fun F H x y dx dy d B1 B2 e ox oy hs Q k => by
  unfold inD at hs
  cases dy <;> simp [itemsD] at hs
  · obtain ⟨⟨h1, h2⟩, rfl⟩ := hs
    exact .inl ⟨_, _, (ox.dp1 e (nodict_shaped h1)).to, (oy.dp1 e rfl).to, h1, h2, KQ.flat k e (.bl _)⟩
  · obtain ⟨⟨h1, h2⟩, rfl⟩ := hs
    exact .inr ⟨_, _, (ox.dp1 e (nodict_shaped h1)).to, (oy.dp1 e rfl).to, h1, h2, by simpa using KQ.flat k e (.bl _)⟩⟩
theorem od_nin (hu : X.A.units + 65 < cLine) : OpD X (compareOp .NotIn) 1 1 0 (inD true) := ⟨_, (op_notInD hu).or (op_notInTD hu), fun F H x y dx dy d B1 B2 e ox oy hs Q k => by
  unfold inD at hs
  cases dy <;> simp [itemsD] at hs
  · obtain ⟨⟨h1, h2⟩, rfl⟩ := hs
    exact .inl ⟨_, _, (ox.dp1 e (nodict_shaped h1)).to, (oy.dp1 e rfl).to, h1, h2, KQ.flat k e (.bl _)⟩
  · obtain ⟨⟨h1, h2⟩, rfl⟩ := hs
    exact .inr ⟨_, _, (ox.dp1 e (nodict_shaped h1)).to, (oy.dp1 e rfl).to, h1, h2, by simpa using KQ.flat k e (.bl _)⟩⟩
/-! ### is None -/
def isNoneD : D → Bool
  | .none => true
  | _ => false
def isD (neg : Bool) (x y : D) : Option D := if isNoneD y = true then some (.bool (xor neg (isNoneD x))) else none
theorem own_isNone {K : Fr} {F H : Hp} {n : Nat} {v : V} {d : D} {B : List Addr} (h : OwnL K F H n v d B) : decide (v = .non) = isNoneD d := by
  rcases h with ⟨h, _⟩ | h
  · cases h <;> rfl
  cases n with
  | zero =>
    have := (Own.zero.mp h).1
    cases this <;> rfl
  | succ n =>
    unfold Own at h
    rcases h with ⟨h, _⟩ | ⟨_, _, _, _, e1, e2, _⟩ | ⟨_, _, _, _, e1, e2, _⟩ | ⟨_, _, _, _, e1, e2, _⟩
    · cases h <;> rfl
    all_goals (subst e1 e2; rfl)
theorem od_is : OpD X (compareOp .Is) 1 0 0 (isD false) := ⟨_, op_isN, fun F H x y dx dy d B1 B2 e ox oy hs Q k => by
  unfold isD at hs
  split at hs
  · rename_i hh
    cases hs
    cases dy <;> first | cases hh | skip
    refine ⟨oy.none, ?_⟩
    have kk := KQ.flat k e (.bl _)
    rw [own_isNone ox]
    simpa only [Bool.false_xor, Bool.true_xor] using kk
  · cases hs⟩
theorem od_isnot : OpD X (compareOp .IsNot) 1 0 0 (isD true) := ⟨_, op_notN, fun F H x y dx dy d B1 B2 e ox oy hs Q k => by
  unfold isD at hs
  split at hs
  · rename_i hh
    cases hs
    cases dy <;> first | cases hh | skip
    refine ⟨oy.none, ?_⟩
    have kk := KQ.flat k e (.bl _)
    rw [own_isNone ox]
    simpa only [Bool.false_xor, Bool.true_xor] using kk
  · cases hs⟩
end
end DL

set_option Elab.async false
set_option linter.all false
set_option maxRecDepth 100000
set_option maxHeartbeats 2000000
namespace DL
open PySem L2 PyProof.Rows
section
variable {X : Cx} {c : Cfg} {e a b : Expr} {es : List Expr} {n n1 n2 n3 m1 m2 : Nat} {da db Ma Mb M : List Nat} {ga gb : GE} {pos p : Pos} {sem : D → D → Option D} {sem1 : D → Option D}
/-! ### a subscript -/
def ixD : D → D → Option D
  | .list ds, .int i => atI ds i
  | .tuple ds, .int i => atI ds i
  | .str z, .int i => if z.length ≤ lim then (atI z.cps.toList i).map fun k => .str ⟨#[k]⟩ else none
  | _, _ => none
theorem dpAll_at {K : Fr} {H : Hp} {ds : List D} {vs : List V} {i : Int} {d : D} (h : DpAll K H vs ds) (e : atI ds i = some d) : ∃ v, atI vs i = some v ∧ Dp K H v d := by
  unfold atI at e ⊢
  rw [dpAll_len h]
  cases q : ixN ds.length i with
  | none => rw [q] at e; cases e
  | some j =>
    rw [q] at e
    exact dpAll_get h e
theorem ix_rule {K : Fr} : ∀ F H x y dx dy d B1 B2, Ex F H → OwnL K F H 1 x dx B1 → OwnL K F H 0 y dy B2 → ixD dx dy = some d →
    ∀ Q : VK, (∀ v F' H' B, Gr F H F' H' → Own K F' H' 0 v d B → (∀ a ∈ B, H a = none) → Q v H') → rIx K x y H Q := fun F H x y dx dy d B1 B2 e ox oy hs Q k => by
  cases dy with
  | int i =>
    rw [oy.int]
    cases dx with
    | list ds =>
      obtain ⟨a, vs, rfl, s1, a1⟩ := ox.lst1 e
      obtain ⟨v, h1, h2⟩ := dpAll_at a1 hs
      exact .inl ⟨a, vs, i, v, rfl, rfl, s1, h1, KQ.froz k e h2⟩
    | tuple ds =>
      obtain ⟨a, vs, rfl, s1, a1⟩ := ox.tup
      obtain ⟨v, h1, h2⟩ := dpAll_at a1 hs
      exact .inr (.inl ⟨a, vs, i, v, rfl, rfl, SqT.of (e _ _ s1), h1, KQ.froz k e h2⟩)
    | str z =>
      simp only [ixD] at hs
      split at hs
      · rename_i hl
        cases q : atI z.cps.toList i with
        | none => rw [q] at hs; cases hs
        | some j =>
          rw [q] at hs
          cases hs
          rw [ox.str]
          exact .inr (.inr ⟨z, i, j, rfl, rfl, lim_ok hl, q, KQ.flat k e (.str _)⟩)
      · cases hs
    | _ => simp [ixD] at hs
  | _ => cases dx <;> simp [ixD] at hs
theorem de_ix (ha : DE X c a m1 da Ma ga) (hb : DE X c b 0 db Mb gb) (hm : (m1 = 0 ∨ m1 = 1) ∧ ((0 : Nat) = 0 ∨ (0 : Nat) = 0) := by decide) (hp : PlainIx b := by exact fun _ _ => rfl) (hd : ∀ i ∈ da, i ∉ Mb := by decide) : DE X c (.Subscript a b pos) 0 [] (Ma ++ Mb) (gBin ixD ga gb) :=
  PE.imp (pe_ix ix_seq ha hb hp) fun σ H Q w => bin_core (n1 := 1) (n2 := 0) w hd hm ix_rule
/-- a list of lists of one's own: its item is of the same owner -/
def ixLD : D → D → Option D
  | .list ds, .int i => atI ds i
  | _, _ => none
theorem allN_at {P : V → D → List Addr → Prop} : ∀ {vs : List V} {ds : List D} {B : List Addr} {j : Nat} {d : D}, AllN P vs ds B → ds[j]? = some d → ∃ v C, vs[j]? = some v ∧ P v d C ∧ ∀ a ∈ C, a ∈ B
  | _, _, _, _, _, .nil, e => by simp at e
  | _, _, _, 0, d, .cons h1 h2 h3, e => by
    simp at e
    subst e
    exact ⟨_, _, by simp, h1, fun a ha => List.mem_append_left _ ha⟩
  | _, _, _, j + 1, d, .cons h1 h2 h3, e => by
    obtain ⟨v, C, q1, q2, q3⟩ := allN_at h2 (by simpa using e)
    exact ⟨v, C, by simpa using q1, q2, fun a ha => List.mem_append_right _ (q3 a ha)⟩
theorem de_ixN (ha : DE X c a (n + 1) da Ma ga) (hb : DE X c b 0 db Mb gb) (hp : PlainIx b := by exact fun _ _ => rfl) (hd : ∀ i ∈ da, i ∉ Mb := by decide) : DE X c (.Subscript a b pos) n da (Ma ++ Mb) (gBin ixLD ga gb) := by
  refine PE.imp (pe_ix ix_list ha hb hp) fun σ H Q w => ?_
  obtain ⟨A, F, ρ, d, ρ', S, eg, k⟩ := w
  obtain ⟨x, ρ1, y, e1, e2, e3⟩ := gBin_some eg
  refine ⟨A, F, ρ, x, ρ1, S, e1, fun vx A1 F1 H1 S1 N1 r1 => ?_⟩
  refine ⟨A1, F1, ρ1, y, ρ', S1, e2, fun vy A2 F2 H2 S2 N2 r2 => ?_⟩
  obtain ⟨B1, o1, hB⟩ := r1.later N2 S2 hd
  obtain ⟨B2, o2, _⟩ := r2
  cases y <;> cases x <;> simp [ixLD] at e3
  rename_i i ds
  rw [(o2.l (n := 0) (.inl rfl)).int]
  unfold Own at o1
  rcases o1 with ⟨_, _, h⟩ | ⟨q, vs, ds', B', e1, e2, e3', h1, h2, h3, h4⟩ | ⟨_, _, _, _, _, e, _⟩ | ⟨_, _, _, _, _, e, _⟩
  · cases h
  · cases e2
    subst e1 e3'
    unfold atI at e3
    rw [← h4.len] at e3
    cases q3 : ixN vs.length i with
    | none => rw [q3] at e3; cases e3
    | some j =>
      rw [q3] at e3
      obtain ⟨v, C, g1, g2, g3⟩ := allN_at h4 e3
      refine ⟨_, vs, i, v, rfl, rfl, .inl (.inl h1), by unfold atI; rw [q3]; exact g1, k v A2 F2 H2 S2 (N1.trans N2) ⟨C, g2, fun a ha => hB a (List.mem_cons_of_mem _ (g3 a ha))⟩⟩
  · cases e
  · cases e
/-! ### a call of a built-in, one argument -/
structure CallD (X : Cx) (f : Value) (n1 n3 : Nat) (sem : D → Option D) : Prop where
  ex : ∃ r, CallR X f r ∧ ∀ F H x dx d B1, Ex F H → OwnL X.K F H n1 x dx B1 → sem dx = some d → ∀ Q : VK, KQ X.K F H n3 d Q → r [x] H Q
structure CallD2 (X : Cx) (f : Value) (n1 n2 n3 : Nat) (sem : D → D → Option D) : Prop where
  ex : ∃ r, CallR X f r ∧ ∀ F H x y dx dy d B1 B2, Ex F H → OwnL X.K F H n1 x dx B1 → OwnL X.K F H n2 y dy B2 → sem dx dy = some d → ∀ Q : VK, KQ X.K F H n3 d Q → r [x, y] H Q
theorem call1_core {K : Fr} {r : List V → Hp → VK → Prop} {σ : L2.St} {H : Hp} {Q : VK} (w : tD K c n3 [] Ma (gUn sem1 ga) σ H Q)
    (hm : m1 = 0 ∨ m1 = n1) (hr : ∀ F H x dx d B1, Ex F H → OwnL K F H n1 x dx B1 → sem1 dx = some d → ∀ Q : VK, KQ K F H n3 d Q → r [x] H Q) : tCB r (tCons (tD K c m1 da Ma ga) tNil) σ H Q := by
  obtain ⟨A, F, ρ, d, ρ', S, eg, k⟩ := w
  obtain ⟨x, e1, e3⟩ := gUn_some eg
  refine ⟨A, F, ρ, x, ρ', S, e1, fun vx A1 F1 H1 S1 N1 r1 => ?_⟩
  obtain ⟨B1, o1, _⟩ := r1
  exact hr F1 H1 vx x d B1 S1.ex (o1.l hm) e3 Q (fin_op S1 N1 k)
theorem call2_core {K : Fr} {r : List V → Hp → VK → Prop} {σ : L2.St} {H : Hp} {Q : VK} (w : tD K c n3 [] (Ma ++ Mb) (gBin sem ga gb) σ H Q) (hd : ∀ i ∈ da, i ∉ Mb)
    (hm : (m1 = 0 ∨ m1 = n1) ∧ (m2 = 0 ∨ m2 = n2)) (hr : ∀ F H x y dx dy d B1 B2, Ex F H → OwnL K F H n1 x dx B1 → OwnL K F H n2 y dy B2 → sem dx dy = some d → ∀ Q : VK, KQ K F H n3 d Q → r [x, y] H Q) : tCB r (tCons (tD K c m1 da Ma ga) (tCons (tD K c m2 db Mb gb) tNil)) σ H Q := by
  obtain ⟨A, F, ρ, d, ρ', S, eg, k⟩ := w
  obtain ⟨x, ρ1, y, e1, e2, e3⟩ := gBin_some eg
  refine ⟨A, F, ρ, x, ρ1, S, e1, fun vx A1 F1 H1 S1 N1 r1 => ?_⟩
  refine ⟨A1, F1, ρ1, y, ρ', S1, e2, fun vy A2 F2 H2 S2 N2 r2 => ?_⟩
  obtain ⟨B1, o1, _⟩ := r1.later N2 S2 hd
  obtain ⟨B2, o2, _⟩ := r2
  exact hr F2 H2 vx vy x y d B1 B2 S2.ex (o1.l hm.1) (o2.l hm.2) e3 Q (fin_op S2 (N1.trans N2) k)
theorem de_callB {id : String} {x : Str} (hc : CallD X (.builtin id) n1 n3 sem1) (ha : DE X c a m1 da Ma ga) (hx : X.mg x = none) (hm : m1 = 0 ∨ m1 = n1 := by decide) (hg : Gl X x := by rfl) (hv : bootBuiltins x = some (.builtin id) := by decide +kernel) (hn : x ≠ "__name__" := by decide) (hdb : (x == ("__debug__" : Str)) = false := by decide)
    (he : starEach (a :: []) X.env = (false, eval a X.env) :: starEach [] X.env := by rfl) (hpl : (backTo pos (starEach [] X.env)).any (·.1) = false := by rfl) : DE X c (.Call (.Name x p) [a] [] pos) n3 [] Ma (gUn sem1 ga) := by
  obtain ⟨r, hr, h⟩ := hc.ex
  exact PE.imp (pe_callB hr hg hx hv (pa_cons ha pa_nil he) hn hdb he hpl) fun σ H Q w => call1_core w hm h
theorem de_callT {T : String} {x : Str} (hc : CallD X (.type T) n1 n3 sem1) (ha : DE X c a m1 da Ma ga) (hx : X.mg x = none) (hm : m1 = 0 ∨ m1 = n1 := by decide) (hg : Gl X x := by rfl) (hv : bootBuiltins x = some (.type T) := by decide +kernel) (hn : x ≠ "__name__" := by decide) (hdb : (x == ("__debug__" : Str)) = false := by decide)
    (he : starEach (a :: []) X.env = (false, eval a X.env) :: starEach [] X.env := by rfl) (hpl : (backTo pos (starEach [] X.env)).any (·.1) = false := by rfl) : DE X c (.Call (.Name x p) [a] [] pos) n3 [] Ma (gUn sem1 ga) := by
  obtain ⟨r, hr, h⟩ := hc.ex
  exact PE.imp (pe_callTy hr hg hx hv (pa_cons ha pa_nil he) hn hdb he hpl) fun σ H Q w => call1_core w hm h
theorem de_callB2 {id : String} {x : Str} (hc : CallD2 X (.builtin id) n1 n2 n3 sem) (ha : DE X c a m1 da Ma ga) (hb : DE X c b m2 db Mb gb) (hx : X.mg x = none) (hm : (m1 = 0 ∨ m1 = n1) ∧ (m2 = 0 ∨ m2 = n2) := by decide) (hg : Gl X x := by rfl) (hv : bootBuiltins x = some (.builtin id) := by decide +kernel) (hd : ∀ i ∈ da, i ∉ Mb := by decide) (hn : x ≠ "__name__" := by decide) (hdb : (x == ("__debug__" : Str)) = false := by decide)
    (he : starEach (a :: [b]) X.env = (false, eval a X.env) :: starEach [b] X.env := by rfl) (he2 : starEach (b :: []) X.env = (false, eval b X.env) :: starEach [] X.env := by rfl) (hpl : (backTo pos (starEach [b] X.env)).any (·.1) = false := by rfl) :
    DE X c (.Call (.Name x p) [a, b] [] pos) n3 [] (Ma ++ Mb) (gBin sem ga gb) := by
  obtain ⟨r, hr, h⟩ := hc.ex
  exact PE.imp (pe_callB hr hg hx hv (pa_cons ha (pa_cons hb pa_nil he2) he) hn hdb he hpl) fun σ H Q w => call2_core w hd hm h
/-! ### the built-ins -/
def lenD : D → Option D
  | .list ds => some (.int ds.length)
  | .tuple ds => some (.int ds.length)
  | .str z => if z.length ≤ lim then some (.int z.length) else none
  | _ => none
theorem own_len {K : Fr} {F H : Hp} {v : V} {d : D} {B : List Addr} {m : D} (ex : Ex F H) (h : OwnL K F H n v d B) (e : lenD d = some m) : ∃ i : Nat, m = .int i ∧ LenV K v H i := by
  cases d with
  | tuple ds =>
    cases e
    obtain ⟨a, vs, rfl, s1, a1⟩ := h.tup
    exact ⟨ds.length, rfl, .inr ⟨vs, SqT.of (ex _ _ s1), (dpAll_len a1).symm⟩⟩
  | str z =>
    simp only [lenD] at e
    split at e
    · rename_i hl
      cases e
      rw [h.str]
      exact ⟨z.length, rfl, lim_ok hl, rfl⟩
    · cases e
  | list ds =>
    cases e
    have dpc : Dp K F v (.list ds) → ∃ i : Nat, (PyData.int (ds.length : Int)) = .int i ∧ LenV K v H i := fun h => by
      cases h with
      | lst hs ha => exact ⟨ds.length, rfl, .inl ⟨_, ex_l ex hs, (dpAll_len ha).symm⟩⟩
    rcases h with ⟨h, _⟩ | h
    · exact dpc h
    cases n with
    | zero => exact dpc (Own.zero.mp h).1
    | succ n =>
      unfold Own at h
      rcases h with ⟨h, _⟩ | ⟨p, vs, ds', B', e1, e2, e3, h1, h2, h3, h4⟩ | ⟨_, _, _, _, _, e, _⟩ | ⟨_, _, _, _, _, e, _⟩
      · exact dpc h
      · cases e2
        subst e1
        exact ⟨ds.length, rfl, .inl ⟨vs, .inl (.inl h1), h4.len.symm⟩⟩
      · cases e
      · cases e
  | _ => cases e
theorem cd_len : CallD X (.builtin "len") n 0 lenD := ⟨_, call_len, fun F H x dx d B1 e o hs Q k => by
  obtain ⟨i, rfl, hl⟩ := own_len e o hs
  exact ⟨x, i, rfl, hl, KQ.flat k e (.int _)⟩⟩
def intD : D → Option D
  | .int i => some (.int i)
  | .bool b => some (.int (if b then 1 else 0))
  | _ => none
theorem cd_int : CallD X (.type "int") 0 0 intD := ⟨_, call_int1, fun F H x dx d B1 e o hs Q k => by
  cases dx <;> simp [intD] at hs
  · subst hs
    rw [o.bool]
    exact .inr ⟨_, rfl, KQ.flat k e (.int _)⟩
  · subst hs
    rw [o.int]
    exact .inl ⟨_, rfl, KQ.flat k e (.int _)⟩⟩
def absD : D → Option D
  | .int i => some (.int (if i < 0 then -i else i))
  | _ => none
theorem cd_abs : CallD X (.builtin "abs") 0 0 absD := ⟨_, call_abs, fun F H x dx d B1 e o hs Q k => by
  cases dx <;> simp [absD] at hs
  subst hs
  rw [o.int]
  exact ⟨_, rfl, KQ.flat k e (.int _)⟩⟩
abbrev max2D := iD (fun i j => if j > i then j else i)
abbrev min2D := iD (fun i j => if j < i then j else i)
theorem cd_max2 (hc : X.calm = true) : CallD2 X (.builtin "max") 0 0 0 max2D := ⟨_, call_max2 hc, fun F H x y dx dy d B1 B2 e ox oy hs Q k => by
  cases dx <;> cases dy <;> simp [iD] at hs
  subst hs
  rw [ox.int, oy.int]
  exact ⟨_, _, rfl, KQ.flat k e (.int _)⟩⟩
theorem cd_min2 (hc : X.calm = true) : CallD2 X (.builtin "min") 0 0 0 min2D := ⟨_, call_min2 hc, fun F H x y dx dy d B1 B2 e ox oy hs Q k => by
  cases dx <;> cases dy <;> simp [iD] at hs
  subst hs
  rw [ox.int, oy.int]
  exact ⟨_, _, rfl, KQ.flat k e (.int _)⟩⟩
def listD (d : D) : Option D := (itemsD d).map .list
theorem cd_list : CallD X (.type "list") 1 1 listD := ⟨_, call_list_of, fun F H x dx d B1 e o hs Q k => by
  cases dx <;> simp [listD, itemsD] at hs
  · subst hs
    obtain ⟨a, vs, rfl, s1, a1⟩ := o.lst1 e
    exact ⟨a, vs, rfl, .inl s1, fun l hl => KQ.lst k e a1 hl⟩
  · subst hs
    obtain ⟨a, vs, rfl, s1, a1⟩ := o.tup
    exact ⟨a, vs, rfl, .inr (SqT.of (e _ _ s1)), fun l hl => KQ.lst k e a1 hl⟩⟩
theorem nd_list : ∀ x d, listD x = some d → isDict d = false := fun x d h => by
  unfold listD at h
  cases q : itemsD x with
  | none => rw [q] at h; cases h
  | some z =>
    rw [q] at h
    cases h
    rfl
def tupleD (d : D) : Option D := (itemsD d).map .tuple
theorem cd_tuple : CallD X (.type "tuple") 1 0 tupleD := ⟨_, call_tuple_of, fun F H x dx d B1 e o hs Q k => by
  cases dx <;> simp [tupleD, itemsD] at hs
  · subst hs
    obtain ⟨a, vs, rfl, s1, a1⟩ := o.lst1 e
    exact ⟨a, vs, rfl, .inl ⟨s1, fun l hl => KQ.tup k e a1 hl⟩⟩
  · subst hs
    obtain ⟨a, vs, rfl, s1, a1⟩ := o.tup
    exact ⟨a, vs, rfl, .inr ⟨SqT.of (e _ _ s1), KQ.flat k e (.tup s1 a1)⟩⟩⟩
def sumD : D → Option D
  | .list ds => (intsOf ds).map fun ns => .int ns.sum
  | _ => none
theorem cd_sum (hc : X.calm = true) : CallD X (.builtin "sum") 1 0 sumD := ⟨_, cr_sum hc, fun F H x dx d B1 e o hs Q k => by
  cases dx <;> simp [sumD] at hs
  obtain ⟨ns, h1, rfl⟩ := hs
  obtain ⟨a, vs, rfl, s1, a1⟩ := o.lst1 e
  rw [intsOf_dp a1 h1] at s1
  exact ⟨a, ns, rfl, s1, KQ.flat k e (.int _)⟩⟩
def blsOf : List D → Option (List Bool)
  | [] => some []
  | .bool i :: r => (blsOf r).map (i :: ·)
  | _ => none
theorem blsOf_dp {K : Fr} {H : Hp} : ∀ {ds : List D} {vs : List V} {ns : List Bool}, DpAll K H vs ds → blsOf ds = some ns → vs = ns.map V.bl
  | [], _, ns, h, e => by
    cases h
    simp [blsOf] at e
    subst e
    rfl
  | d :: ds, _, ns, h, e => by
    cases h with
    | cons h1 h2 =>
      cases d <;> simp [blsOf] at e
      obtain ⟨a, e1, e2⟩ := e
      cases h1
      rw [blsOf_dp h2 e1, ← e2]
      rfl
def allD : D → Option D
  | .list ds => (blsOf ds).map fun ns => .bool (ns.all id)
  | _ => none
def anyD : D → Option D
  | .list ds => (blsOf ds).map fun ns => .bool (ns.any id)
  | _ => none
theorem cd_all (hc : X.calm = true) : CallD X (.builtin "all") 1 0 allD := ⟨_, cr_all hc, fun F H x dx d B1 e o hs Q k => by
  cases dx <;> simp [allD] at hs
  obtain ⟨ns, h1, rfl⟩ := hs
  obtain ⟨a, vs, rfl, s1, a1⟩ := o.lst1 e
  rw [blsOf_dp a1 h1] at s1
  refine ⟨a, ns, rfl, s1, ?_⟩
  have := KQ.flat k e (.bl _)
  simpa using this⟩
theorem cd_any (hc : X.calm = true) : CallD X (.builtin "any") 1 0 anyD := ⟨_, cr_any hc, fun F H x dx d B1 e o hs Q k => by
  cases dx <;> simp [anyD] at hs
  obtain ⟨ns, h1, rfl⟩ := hs
  obtain ⟨a, vs, rfl, s1, a1⟩ := o.lst1 e
  rw [blsOf_dp a1 h1] at s1
  refine ⟨a, ns, rfl, s1, ?_⟩
  have := KQ.flat k e (.bl _)
  simpa using this⟩
/-- isinstance(e, T), T a built-in class -/
def tyD : D → String
  | .none => "NoneType"
  | .bool _ => "bool"
  | .int _ => "int"
  | .str _ => "str"
  | .list _ => "list"
  | .tuple _ => "tuple"
  | .dict _ => "dict"
def isiD (T : String) (d : D) : Option D := if isDict d = true then none else (kitB (tyD d) T).map .bool
theorem own_ty {K : Fr} {F H : Hp} {v : V} {d : D} {B : List Addr} (ex : Ex F H) (h : OwnL K F H n v d B) (nd : isDict d = false) : TyX K H v (.type (tyD d)) := by
  have dpc : Dp K F v d → TyX K H v (.type (tyD d)) := fun h => by
    cases h with
    | non => exact .base .non
    | bl b => exact .base (.bl b)
    | int b => exact .base (.int b)
    | str b => exact .base (.str b)
    | lst hs ha =>
      rcases ex_l ex hs with (hs | ⟨o, hs⟩) | ⟨o, its, n, hk, hc, _⟩
      · exact .base (.lst hs)
      · exact .base (.frz hs)
      · exact .kList hk hc
    | tup hs ha => exact .base (.tup (ex _ _ hs))
  rcases h with ⟨h, _⟩ | h
  · exact dpc h
  cases n with
  | zero => exact dpc (Own.zero.mp h).1
  | succ n =>
    unfold Own at h
    rcases h with ⟨h, _⟩ | ⟨p, vs, ds', B', e1, e2, e3, h1, h2, h3, h4⟩ | ⟨p, vs, ds', B', e1, e2, e3, h1, h2, h3, h4⟩ | ⟨p, vs, ds', B', e1, e2, e3, h1, h2, h3, h4⟩
    · exact dpc h
    · subst e1 e2
      exact .base (.lst h1)
    · subst e1 e2
      cases nd
    · subst e1 e2
      cases nd
theorem de_isi {T : Str} {p2 : Pos} {Ty : String} (hf : bootBuiltins T = some (.type Ty)) (ha : DE X c a n da Ma ga) (hm : X.mg "isinstance" = none) (hmT : X.mg T = none) (hg : Gl X "isinstance" := by rfl) (hgT : Gl X T := by rfl) (hnT : T ≠ "__name__" := by decide) (hdT : (T == ("__debug__" : Str)) = false := by decide)
    (he : starEach (a :: [.Name T p2]) X.env = (false, eval a X.env) :: starEach [.Name T p2] X.env := by rfl) (he2 : starEach (.Name T p2 :: []) X.env = (false, eval (.Name T p2) X.env) :: starEach [] X.env := by rfl) (hpl : (backTo pos (starEach [.Name T p2] X.env)).any (·.1) = false := by rfl) :
    DE X c (.Call (.Name "isinstance" p) [a, .Name T p2] [] pos) 0 [] Ma (gUn (isiD Ty) ga) := by
  have pT : PE X (.Name T p2) (tC (.ty Ty)) := pe_bltn hgT hmT hf rfl hnT hdT
  refine PE.imp (pe_callB call_isi hg hm (by decide +kernel) (pa_cons ha (pa_cons pT pa_nil he2) he) (by decide) (by decide) he hpl) fun σ H Q w => ?_
  obtain ⟨A, F, ρ, d, ρ', S, eg, k⟩ := w
  obtain ⟨x, e1, e3⟩ := gUn_some eg
  refine ⟨A, F, ρ, x, ρ', S, e1, fun vx A1 F1 H1 S1 N1 r1 => ?_⟩
  obtain ⟨B1, o1, _⟩ := r1
  unfold isiD at e3
  split at e3
  · cases e3
  rename_i hnd
  cases q : kitB (tyD x) Ty with
  | none => rw [q] at e3; cases e3
  | some b =>
    rw [q] at e3
    cases e3
    exact ⟨vx, .ty Ty, .type (tyD x), .type Ty, b, rfl, .ty Ty, own_ty S1.ex (o1.l (n := n) (.inr rfl)) (by simpa using hnd), kit_ty q, k _ A1 F1 H1 S1 N1 (Res.of_froz (.bl b))⟩
/-! ### displays -/
/-- bs: which arguments are slots that are handed over to be changed -/
def ArgsOk (K : Fr) (F : Hp) (σ : L2.St) : List (Option Nat) → List V → List D → Prop
  | [], [], [] => True
  | none :: bs, v :: vs, d :: ds => Dp K F v d ∧ ArgsOk K F σ bs vs ds
  | some j :: bs, v :: vs, _ :: ds => σ[j]? = some (some v) ∧ ArgsOk K F σ bs vs ds
  | _, _, _ => False
abbrev GA := Env → Option (List D × Env)
def tA (K : Fr) (c : Cfg) (bs : List (Option Nat)) (M : List Nat) (g : GA) : TA := fun σ H Q => ∃ A F ρ ds ρ', StOk K c A ρ F σ H ∧ g ρ = some (ds, ρ') ∧
  ∀ vs A' F' H', StOk K c A' ρ' F' σ H' → Nxt M A F H A' F' H' → ArgsOk K F' σ bs vs ds → Q vs H'
def DA (X : Cx) (c : Cfg) (es : List Expr) (bs : List (Option Nat)) (M : List Nat) (g : GA) : Prop := PA X es (tA X.K c bs M g)
theorem PA.imp {X : Cx} {e : List Expr} {t t' : TA} (h : PA X e t) (q : ∀ σ H Q, t' σ H Q → t σ H Q) : PA X e t' := ⟨fun pos pins s σ H Q I w => h.run pos pins s σ H Q I (q _ _ _ w)⟩
def gNil : GA := fun ρ => some ([], ρ)
def gCons (g : GE) (r : GA) : GA := fun ρ => (g ρ).bind fun p => (r p.2).map fun q => (p.1 :: q.1, q.2)
def gConsB (j : Nat) (r : GA) : GA := fun ρ => match ρ[j]? with
  | some (some _) => (r ρ).map fun q => (.none :: q.1, q.2)
  | _ => none
theorem da_nil : DA X c [] [] [] gNil := by
  refine PA.imp pa_nil fun σ H Q w => ?_
  obtain ⟨A, F, ρ, ds, ρ', S, eg, k⟩ := w
  cases eg
  exact k [] A F H S Nxt.refl trivial
theorem ArgsOk.ex {K : Fr} {F F' : Hp} (e : Ex F F') {σ : L2.St} : ∀ {bs : List (Option Nat)} {vs : List V} {ds : List D}, ArgsOk K F σ bs vs ds → ArgsOk K F' σ bs vs ds
  | [], [], [], _ => trivial
  | none :: bs, v :: vs, d :: ds, h => ⟨Dp.ex e _ _ h.1, ArgsOk.ex e h.2⟩
  | some j :: bs, v :: vs, _ :: ds, h => ⟨h.1, ArgsOk.ex e h.2⟩
  | [], [], _ :: _, h => h.elim
  | [], _ :: _, _, h => h.elim
  | none :: _, [], _, h => h.elim
  | none :: _, _ :: _, [], h => h.elim
  | some _ :: _, [], _, h => h.elim
  | some _ :: _, _ :: _, [], h => h.elim
theorem da_cons {bs : List (Option Nat)} {g : GA} (ha : DE X c a 0 da Ma ga) (hr : DA X c es bs M g) (hs : starEach (a :: es) X.env = (false, eval a X.env) :: starEach es X.env := by rfl) : DA X c (a :: es) (none :: bs) (Ma ++ M) (gCons ga g) := by
  refine PA.imp (pa_cons ha hr hs) fun σ H Q w => ?_
  obtain ⟨A, F, ρ, ds, ρ', S, eg, k⟩ := w
  unfold gCons at eg
  cases e1 : ga ρ with
  | none => rw [e1] at eg; cases eg
  | some q =>
    obtain ⟨x, ρ1⟩ := q
    rw [e1] at eg
    simp only [Option.bind_some] at eg
    cases e2 : g ρ1 with
    | none => rw [e2] at eg; cases eg
    | some q =>
      obtain ⟨xs, ρ2⟩ := q
      rw [e2] at eg
      simp only [Option.map_some, Option.some.injEq, Prod.mk.injEq] at eg
      obtain ⟨rfl, rfl⟩ := eg
      refine ⟨A, F, ρ, x, ρ1, S, e1, fun v A1 F1 H1 S1 N1 r1 => ?_⟩
      refine ⟨A1, F1, ρ1, xs, ρ2, S1, e2, fun vs A2 F2 H2 S2 N2 r2 => ?_⟩
      exact k (v :: vs) A2 F2 H2 S2 (N1.trans N2) ⟨Dp.ex N2.exF _ _ r1.froz0, r2⟩
theorem da_bor {bs : List (Option Nat)} {g : GA} {j : Nat} (ha : PE X a (tVar j)) (hr : DA X c es bs M g) (hs : starEach (a :: es) X.env = (false, eval a X.env) :: starEach es X.env := by rfl) : DA X c (a :: es) (some j :: bs) M (gConsB j g) := by
  refine PA.imp (pa_cons ha hr hs) fun σ H Q w => ?_
  obtain ⟨A, F, ρ, ds, ρ', S, eg, k⟩ := w
  unfold gConsB at eg
  split at eg
  · rename_i d ed
    cases e2 : g ρ with
    | none => rw [e2] at eg; cases eg
    | some q =>
      obtain ⟨xs, ρ2⟩ := q
      rw [e2] at eg
      simp only [Option.map_some, Option.some.injEq, Prod.mk.injEq] at eg
      obtain ⟨rfl, rfl⟩ := eg
      obtain ⟨v, hv, _⟩ := S.own j d ed
      exact ⟨v, hv, A, F, ρ, xs, ρ2, S, e2, fun vs A2 F2 H2 S2 N2 r2 => k (v :: vs) A2 F2 H2 S2 N2 ⟨hv, r2⟩⟩
  · cases eg
theorem args_froz {K : Fr} {F : Hp} {σ : L2.St} : ∀ {bs : List (Option Nat)} {vs : List V} {ds : List D}, ArgsOk K F σ bs vs ds → (bs.all (·.isNone)) = true → DpAll K F vs ds
  | [], [], [], _, _ => .nil
  | none :: bs, v :: vs, d :: ds, h, e => .cons h.1 (args_froz h.2 (by simpa using e))
  | some j :: bs, v :: vs, _ :: ds, h, e => by simp at e
  | [], [], _ :: _, h, _ => h.elim
  | [], _ :: _, _, h, _ => h.elim
  | none :: _, [], _, h, _ => h.elim
  | none :: _, _ :: _, [], h, _ => h.elim
  | some _ :: _, [], _, h, _ => h.elim
  | some _ :: _, _ :: _, [], h, _ => h.elim
def gTup (g : GA) : GE := fun ρ => (g ρ).bind fun p => if p.1.length ≤ lim then some (.tuple p.1, p.2) else none
def gLst (g : GA) : GE := fun ρ => (g ρ).bind fun p => if p.1.length ≤ lim then some (.list p.1, p.2) else none
theorem nd_gLst {g : GA} : ND (gLst g) := fun ρ d ρ' h => by
  unfold gLst at h
  cases e1 : g ρ with
  | none => rw [e1] at h; cases h
  | some p =>
    rw [e1] at h
    simp only [Option.bind_some] at h
    split at h
    · cases h
      rfl
    · cases h
theorem de_tup {bs : List (Option Nat)} {g : GA} {x1 : _} (h : DA X c es bs M g) (hb : bs.all (·.isNone) = true := by rfl) : DE X c (.Tuple es x1 pos) 0 [] M (gTup g) := by
  refine PE.imp (pe_tup h) fun σ H Q w => ?_
  obtain ⟨A, F, ρ, d, ρ', S, eg, k⟩ := w
  unfold gTup at eg
  cases e1 : g ρ with
  | none => rw [e1] at eg; cases eg
  | some q =>
    obtain ⟨xs, ρ1⟩ := q
    rw [e1] at eg
    simp only [Option.bind_some] at eg
    split at eg
    · rename_i hl
      cases eg
      refine ⟨A, F, ρ, xs, _, S, e1, fun vs A1 F1 H1 S1 N1 r1 => ?_⟩
      have hd := args_froz r1 hb
      exact ⟨lim_ok (by rw [dpAll_len hd]; exact hl), fun p hp => KQ.tup (n := 0) (fin_op S1 N1 k) S1.ex hd hp⟩
    · cases eg
theorem de_lst {bs : List (Option Nat)} {g : GA} (h : DA X c es bs M g) (hb : bs.all (·.isNone) = true := by rfl) : DE X c (.List es pos) 1 [] M (gLst g) := by
  refine PE.imp (pe_lst h) fun σ H Q w => ?_
  obtain ⟨A, F, ρ, d, ρ', S, eg, k⟩ := w
  unfold gLst at eg
  cases e1 : g ρ with
  | none => rw [e1] at eg; cases eg
  | some q =>
    obtain ⟨xs, ρ1⟩ := q
    rw [e1] at eg
    simp only [Option.bind_some] at eg
    split at eg
    · rename_i hl
      cases eg
      refine ⟨A, F, ρ, xs, _, S, e1, fun vs A1 F1 H1 S1 N1 r1 => ?_⟩
      have hd := args_froz r1 hb
      exact ⟨lim_ok (by rw [dpAll_len hd]; exact hl), fun p hp => KQ.lst (fin_op S1 N1 k) S1.ex hd hp⟩
    · cases eg
end
end DL

set_option Elab.async false
set_option linter.all false
set_option maxRecDepth 100000
set_option maxHeartbeats 2000000
namespace DL
open PySem L2 PyProof.Rows
inductive Out where
  | nx (ρ : Env)
  | rt (d : D) (ρ : Env)
  | bk (ρ : Env)
  | ct (ρ : Env)
abbrev GS := Env → Option Out
def SameB (c : Cfg) (σ σ' : L2.St) : Prop := σ'.length = σ.length ∧ ∀ i ∈ c.ino, σ'[i]? = σ[i]?
theorem SameB.refl {c : Cfg} {σ : L2.St} : SameB c σ σ := ⟨rfl, fun _ _ => rfl⟩
theorem SameB.trans {c : Cfg} {σ σ1 σ2 : L2.St} (a : SameB c σ σ1) (b : SameB c σ1 σ2) : SameB c σ σ2 := ⟨b.1.trans a.1, fun i hi => (b.2 i hi).trans (a.2 i hi)⟩
/-- what follows in the state behind -/
def Beh (K : Fr) (c : Cfg) (M : List Nat) (A : Nat → List Addr) (F : Hp) (σ : L2.St) (H : Hp) (ρ' : Env) (P : L2.St → Hp → Prop) : Prop :=
  ∀ σ' A' F' H', StOk K c A' ρ' F' σ' H' → Nxt M A F H A' F' H' → SameB c σ σ' → P σ' H'
def tS (K : Fr) (c : Cfg) (n : Nat) (M : List Nat) (f : GS) : TS := fun Ds σ H => ∃ A F ρ o, StOk K c A ρ F σ H ∧ f ρ = some o ∧
  match o with
  | .nx ρ' => Beh K c M A F σ H ρ' Ds.nx
  | .bk ρ' => Beh K c M A F σ H ρ' Ds.bk
  | .ct ρ' => Beh K c M A F σ H ρ' Ds.ct
  | .rt d ρ' => ∀ v σ' A' F' H', StOk K c A' ρ' F' σ' H' → Nxt M A F H A' F' H' → SameB c σ σ' → Res K A H [] n A' F' H' v d → Ds.rt v H'
def DS (X : Cx) (c : Cfg) (n : Nat) (st : Stmt) (M : List Nat) (f : GS) : Prop := PS X st (tS X.K c n M f)
def DSs (X : Cx) (c : Cfg) (n : Nat) (st : List Stmt) (M : List Nat) (f : GS) : Prop := PSs X st (tS X.K c n M f)
theorem Beh.step {K : Fr} {c : Cfg} {M M' : List Nat} {A A1 : Nat → List Addr} {F H F1 H1 : Hp} {σ σ1 : L2.St} {ρ' : Env} {P : L2.St → Hp → Prop} (b : Beh K c M A F σ H ρ' P) (N : Nxt M' A F H A1 F1 H1) (s : SameB c σ σ1) (hM : ∀ i, i ∈ M' → i ∈ M) : Beh K c M A1 F1 σ1 H1 ρ' P :=
  fun σ' A' F' H' S' N' s' => b σ' A' F' H' S' ((N.trans N').mono fun i hi => (List.mem_append.mp hi).elim (hM i) id) (s.trans s')
theorem tS.step {K : Fr} {c : Cfg} {n : Nat} {M M' : List Nat} {A A1 : Nat → List Addr} {F H F1 H1 : Hp} {σ σ1 : L2.St} {Ds : Ends} {o : Out} (N : Nxt M' A F H A1 F1 H1) (s : SameB c σ σ1) (hM : ∀ i, i ∈ M' → i ∈ M)
    (k : match o with
      | .nx ρ' => Beh K c M A F σ H ρ' Ds.nx
      | .bk ρ' => Beh K c M A F σ H ρ' Ds.bk
      | .ct ρ' => Beh K c M A F σ H ρ' Ds.ct
      | .rt d ρ' => ∀ v σ' A' F' H', StOk K c A' ρ' F' σ' H' → Nxt M A F H A' F' H' → SameB c σ σ' → Res K A H [] n A' F' H' v d → Ds.rt v H') :
    match o with
      | .nx ρ' => Beh K c M A1 F1 σ1 H1 ρ' Ds.nx
      | .bk ρ' => Beh K c M A1 F1 σ1 H1 ρ' Ds.bk
      | .ct ρ' => Beh K c M A1 F1 σ1 H1 ρ' Ds.ct
      | .rt d ρ' => ∀ v σ' A' F' H', StOk K c A' ρ' F' σ' H' → Nxt M A1 F1 H1 A' F' H' → SameB c σ1 σ' → Res K A1 H1 [] n A' F' H' v d → Ds.rt v H' := by
  cases o with
  | nx ρ' => exact Beh.step k N s hM
  | bk ρ' => exact Beh.step k N s hM
  | ct ρ' => exact Beh.step k N s hM
  | rt d ρ' => exact fun v σ' A' F' H' S' N' s' r => k v σ' A' F' H' S' ((N.trans N').mono fun i hi => (List.mem_append.mp hi).elim (hM i) id) (s.trans s') (r.back N)
section
variable {X : Cx} {c : Cfg} {e a b : Expr} {es : List Expr} {n n1 n2 n3 m1 m2 : Nat} {da db Ma Mb M M2 : List Nat} {ga gb g : GE} {pos p : Pos} {st : Stmt} {rest : List Stmt} {f h : GS}
theorem ds_weak (q : DS X c n st M f) (hM : ∀ i, i ∈ M → i ∈ M2) : DS X c n st M2 f := by
  refine PS.imp q fun Ds σ H w => ?_
  obtain ⟨A, F, ρ, o, S, eg, k⟩ := w
  refine ⟨A, F, ρ, o, S, eg, ?_⟩
  cases o with
  | nx ρ' => exact fun σ' A' F' H' S' N' s => k σ' A' F' H' S' (N'.mono hM) s
  | bk ρ' => exact fun σ' A' F' H' S' N' s => k σ' A' F' H' S' (N'.mono hM) s
  | ct ρ' => exact fun σ' A' F' H' S' N' s => k σ' A' F' H' S' (N'.mono hM) s
  | rt d ρ' => exact fun v σ' A' F' H' S' N' s r => k v σ' A' F' H' S' (N'.mono hM) s r
/-! ### blocks -/
def sNil : GS := fun ρ => some (.nx ρ)
def sSeq (f h : GS) : GS := fun ρ => (f ρ).bind fun
  | .nx ρ1 => h ρ1
  | o => some o
theorem dss_nil : DSs X c n [] [] sNil := by
  refine PSs.imp pss_nil fun Ds σ H w => ?_
  obtain ⟨A, F, ρ, o, S, eg, k⟩ := w
  cases eg
  exact k σ A F H S Nxt.refl SameB.refl
theorem dss_cons (h1 : DS X c n st M f) (h2 : DSs X c n rest M2 h) : DSs X c n (st :: rest) (M ++ M2) (sSeq f h) := by
  refine PSs.imp (pss_cons h1 h2) fun Ds σ H w => ?_
  obtain ⟨A, F, ρ, o, S, eg, k⟩ := w
  unfold sSeq at eg
  cases e1 : f ρ with
  | none => rw [e1] at eg; cases eg
  | some o1 =>
    rw [e1] at eg
    simp only [Option.bind_some] at eg
    refine ⟨A, F, ρ, o1, S, e1, ?_⟩
    cases o1 with
    | nx ρ1 => exact fun σ' A' F' H' S' N' s => ⟨A', F', ρ1, o, S', eg, by
        have := tS.step (σ1 := σ') (M := M ++ M2) N' s (fun i hi => List.mem_append_left _ hi) k
        cases o with
        | nx ρ' => exact fun σ2 A2 F2 H2 S2 N2 s2 => this σ2 A2 F2 H2 S2 (N2.mono fun i hi => List.mem_append_right _ hi) s2
        | bk ρ' => exact fun σ2 A2 F2 H2 S2 N2 s2 => this σ2 A2 F2 H2 S2 (N2.mono fun i hi => List.mem_append_right _ hi) s2
        | ct ρ' => exact fun σ2 A2 F2 H2 S2 N2 s2 => this σ2 A2 F2 H2 S2 (N2.mono fun i hi => List.mem_append_right _ hi) s2
        | rt d ρ' => exact fun v σ2 A2 F2 H2 S2 N2 s2 r => this v σ2 A2 F2 H2 S2 (N2.mono fun i hi => List.mem_append_right _ hi) s2 r⟩
    | bk ρ1 => cases eg; exact fun σ' A' F' H' S' N' s => k σ' A' F' H' S' (N'.mono fun i hi => List.mem_append_left _ hi) s
    | ct ρ1 => cases eg; exact fun σ' A' F' H' S' N' s => k σ' A' F' H' S' (N'.mono fun i hi => List.mem_append_left _ hi) s
    | rt d ρ1 => cases eg; exact fun v σ' A' F' H' S' N' s r => k v σ' A' F' H' S' (N'.mono fun i hi => List.mem_append_left _ hi) s r
theorem dss_one (h1 : DS X c n st M f) : DSs X c n [st] M f := PSs.imp (pss_one h1) fun _ _ _ w => w
theorem ds_pass : DS X c n (.Pass pos) [] sNil := by
  refine PS.imp ps_pass fun Ds σ H w => ?_
  obtain ⟨A, F, ρ, o, S, eg, k⟩ := w
  cases eg
  exact k σ A F H S Nxt.refl SameB.refl
def sBrk : GS := fun ρ => some (.bk ρ)
def sCnt : GS := fun ρ => some (.ct ρ)
theorem ds_brk : DS X c n (.Break pos) [] sBrk := by
  refine PS.imp ps_break fun Ds σ H w => ?_
  obtain ⟨A, F, ρ, o, S, eg, k⟩ := w
  cases eg
  exact k σ A F H S Nxt.refl SameB.refl
theorem ds_cnt : DS X c n (.Continue pos) [] sCnt := by
  refine PS.imp ps_continue fun Ds σ H w => ?_
  obtain ⟨A, F, ρ, o, S, eg, k⟩ := w
  cases eg
  exact k σ A F H S Nxt.refl SameB.refl
/-- a statement that is not reached -/
def sBad : GS := fun _ => none
theorem ds_bad : DS X c n st [] sBad := by
  refine PS.imp ps_never fun Ds σ H w => ?_
  obtain ⟨A, F, ρ, o, S, eg, k⟩ := w
  cases eg
def sIf (t : GT) (f h : GS) : GS := fun ρ => (t ρ).bind fun p => if p.1 = true then f p.2 else h p.2
theorem ds_if {t : Expr} {gt : GT} {xs ys : List Stmt} {M1 : List Nat} (ht : DT X c t M gt) (h1 : DSs X c n xs M1 f) (h2 : DSs X c n ys M2 h) : DS X c n (.If t xs ys pos) (M ++ (M1 ++ M2)) (sIf gt f h) := by
  refine PS.imp (ps_if ht h1 h2) fun Ds σ H w => ?_
  obtain ⟨A, F, ρ, o, S, eg, k⟩ := w
  unfold sIf at eg
  cases e1 : gt ρ with
  | none => rw [e1] at eg; cases eg
  | some p =>
    obtain ⟨b1, ρ1⟩ := p
    rw [e1] at eg
    simp only [Option.bind_some] at eg
    refine ⟨A, F, ρ, b1, ρ1, S, e1, fun A1 F1 H1 S1 N1 => ?_⟩
    have k2 := tS.step (σ1 := σ) (M := M ++ (M1 ++ M2)) N1 SameB.refl (fun i hi => List.mem_append_left _ hi) k
    cases b1 with
    | true =>
      rw [if_pos rfl] at eg
      show tS X.K c n M1 f Ds σ H1
      refine ⟨A1, F1, ρ1, o, S1, eg, ?_⟩
      have hm : ∀ i, i ∈ M1 → i ∈ M ++ (M1 ++ M2) := fun i hi => List.mem_append_right _ (List.mem_append_left _ hi)
      cases o with
      | nx ρ' => exact fun σ2 A2 F2 H2 S2 N2 s2 => k2 σ2 A2 F2 H2 S2 (N2.mono hm) s2
      | bk ρ' => exact fun σ2 A2 F2 H2 S2 N2 s2 => k2 σ2 A2 F2 H2 S2 (N2.mono hm) s2
      | ct ρ' => exact fun σ2 A2 F2 H2 S2 N2 s2 => k2 σ2 A2 F2 H2 S2 (N2.mono hm) s2
      | rt d ρ' => exact fun v σ2 A2 F2 H2 S2 N2 s2 r => k2 v σ2 A2 F2 H2 S2 (N2.mono hm) s2 r
    | false =>
      rw [if_neg Bool.false_ne_true] at eg
      show tS X.K c n M2 h Ds σ H1
      refine ⟨A1, F1, ρ1, o, S1, eg, ?_⟩
      have hm : ∀ i, i ∈ M2 → i ∈ M ++ (M1 ++ M2) := fun i hi => List.mem_append_right _ (List.mem_append_right _ hi)
      cases o with
      | nx ρ' => exact fun σ2 A2 F2 H2 S2 N2 s2 => k2 σ2 A2 F2 H2 S2 (N2.mono hm) s2
      | bk ρ' => exact fun σ2 A2 F2 H2 S2 N2 s2 => k2 σ2 A2 F2 H2 S2 (N2.mono hm) s2
      | ct ρ' => exact fun σ2 A2 F2 H2 S2 N2 s2 => k2 σ2 A2 F2 H2 S2 (N2.mono hm) s2
      | rt d ρ' => exact fun v σ2 A2 F2 H2 S2 N2 s2 r => k2 v σ2 A2 F2 H2 S2 (N2.mono hm) s2 r
def sRet (g : GE) : GS := fun ρ => (g ρ).map fun p => .rt p.1 p.2
theorem ds_ret (he : DE X c e n [] M g) : DS X c n (.Return (some e) pos) M (sRet g) := by
  refine PS.imp (ps_ret he) fun Ds σ H w => ?_
  obtain ⟨A, F, ρ, o, S, eg, k⟩ := w
  unfold sRet at eg
  cases e1 : g ρ with
  | none => rw [e1] at eg; cases eg
  | some p =>
    obtain ⟨d, ρ1⟩ := p
    rw [e1] at eg
    cases eg
    exact ⟨A, F, ρ, d, ρ1, S, e1, fun v A1 F1 H1 S1 N1 r1 => k v σ A1 F1 H1 S1 N1 SameB.refl r1⟩
def sRetN : GS := fun ρ => some (.rt .none ρ)
theorem ds_retN : DS X c n (.Return none pos) [] sRetN := by
  refine PS.imp ps_retN fun Ds σ H w => ?_
  obtain ⟨A, F, ρ, o, S, eg, k⟩ := w
  cases eg
  exact k .non σ A F H S Nxt.refl SameB.refl (Res.of_flat .non rfl)
def sExpr (g : GE) : GS := fun ρ => (g ρ).map fun p => .nx p.2
theorem ds_expr {deps : List Nat} {n' : Nat} (he : DE X c e n' deps M g) (hs : swapsWith e none pos.line X.env = pure false := by rfl) : DS X c n (.Expr e pos) M (sExpr g) := by
  refine PS.imp (ps_expr he hs) fun Ds σ H w => ?_
  obtain ⟨A, F, ρ, o, S, eg, k⟩ := w
  unfold sExpr at eg
  cases e1 : g ρ with
  | none => rw [e1] at eg; cases eg
  | some p =>
    obtain ⟨d, ρ1⟩ := p
    rw [e1] at eg
    cases eg
    exact ⟨A, F, ρ, d, ρ1, S, e1, fun v A1 F1 H1 S1 N1 r1 => k σ A1 F1 H1 S1 N1 SameB.refl⟩
/-! ### stores to names -/
def updA (A : Nat → List Addr) (i : Nat) (B : List Addr) : Nat → List Addr := fun j => if j = i then B else A j
theorem updA_same {A : Nat → List Addr} {i : Nat} {B : List Addr} : updA A i B i = B := by unfold updA; rw [if_pos rfl]
theorem updA_ne {A : Nat → List Addr} {i j : Nat} {B : List Addr} (h : j ≠ i) : updA A i B j = A j := by unfold updA; rw [if_neg h]
/-- a slot takes what an expression gave -/
theorem put_slot {K : Fr} {A A' : Nat → List Addr} {ρ' : Env} {F H F' H' : Hp} {σ : L2.St} {M : List Nat} {i : Nat} {v : V} {d : D} (S : StOk K c A' ρ' F' σ H') (N : Nxt M A F H A' F' H') (r : Res K A H [] (c.dep i) A' F' H' v d) (hi : i < σ.length) :
    ∃ A2, StOk K c A2 (ρ'.set i (some d)) F' (σ.set i (some v)) H' ∧ Nxt (i :: M) A F H A2 F' H' := by
  obtain ⟨B, ho, hB⟩ := r
  have hB' : ∀ a ∈ B, (∀ j, a ∉ A' j) ∧ ((∃ j, a ∈ A j) ∨ H a = none) := fun a ha => by
    rcases hB a ha with z | ⟨j, hj, _⟩
    · exact z
    · simp at hj
  have hi' : i < ρ'.length := by rw [S.len]; exact hi
  refine ⟨updA A' i B, ⟨S.ex, by simpa using S.len, fun j d' e1 => ?_, fun j hj => ?_, fun j l hjl a ha => ?_⟩, ⟨N.exF, N.grow, fun a o ha hn => ?_, fun j hj => ?_, fun j a ha => ?_⟩⟩
  · by_cases hji : j = i
    · subst hji
      rw [List.getElem?_set_self hi'] at e1
      cases e1
      exact ⟨v, List.getElem?_set_self hi, by rw [updA_same]; exact ho⟩
    · rw [List.getElem?_set_ne (Ne.symm hji)] at e1
      obtain ⟨w, h1, h2⟩ := S.own j d' e1
      exact ⟨w, by rw [List.getElem?_set_ne (Ne.symm hji)]; exact h1, by rw [updA_ne hji]; exact h2⟩
  · by_cases hji : j = i
    · subst hji
      exact absurd (List.getElem?_set_self hi') (hj d)
    · rw [updA_ne hji]
      exact S.no j fun d' e1 => hj d' (by rw [List.getElem?_set_ne (Ne.symm hji)]; exact e1)
  · by_cases hji : j = i
    · subst hji
      rw [updA_same] at ha
      rw [updA_ne (Ne.symm hjl)]
      exact (hB' a ha).1 l
    · rw [updA_ne hji] at ha
      by_cases hli : l = i
      · subst hli
        rw [updA_same]
        exact fun z => (hB' a z).1 j ha
      · rw [updA_ne hli]
        exact S.dis j l hjl a ha
  · obtain ⟨k1, k2, k3⟩ := N.keep a o ha hn
    refine ⟨k1, fun j => ?_, k3⟩
    by_cases hji : j = i
    · subst hji
      rw [updA_same]
      intro z
      rcases (hB' a z).2 with ⟨l, hl⟩ | hl
      · exact hn l hl
      · rw [ha] at hl
        cases hl
    · rw [updA_ne hji]
      exact k2 j
  · have h1 : j ≠ i := fun z => hj (by simp [z])
    have h2 : j ∉ M := fun z => hj (List.mem_cons_of_mem _ z)
    rw [updA_ne h1]
    exact N.own j h2
  · by_cases hji : j = i
    · subst hji
      rw [updA_same] at ha
      exact (hB' a ha).2
    · rw [updA_ne hji] at ha
      exact N.src j a ha
theorem sameB_set {σ : L2.St} {i : Nat} {v : Option V} (hi : i ∉ c.ino) : SameB c σ (σ.set i v) := ⟨by simp, fun j hj => List.getElem?_set_ne fun z => hi (by rw [z]; exact hj)⟩
def sSet (i : Nat) (g : GE) : GS := fun ρ => (g ρ).bind fun p => if i < ρ.length then some (.nx (p.2.set i (some p.1))) else none
theorem ds_setT {i : Nat} {te : TE} (hp : PS X st (tAsg (tD X.K c (c.dep i) [] M g) (gName i))) (hi : i ∉ c.ino) : DS X c n st (i :: M) (sSet i g) := by
  refine PS.imp hp fun Ds σ H w => ?_
  obtain ⟨A, F, ρ, o, S, eg, k⟩ := w
  unfold sSet at eg
  cases e1 : g ρ with
  | none => rw [e1] at eg; cases eg
  | some p =>
    obtain ⟨d, ρ1⟩ := p
    rw [e1] at eg
    simp only [Option.bind_some] at eg
    split at eg
    · rename_i hl
      cases eg
      refine ⟨A, F, ρ, d, ρ1, S, e1, fun v A1 F1 H1 S1 N1 r1 => ?_⟩
      obtain ⟨A2, S2, N2⟩ := put_slot S1 N1 r1 (by rw [← S.len]; exact hl)
      exact k _ A2 F1 H1 S2 N2 (sameB_set hi)
    · cases eg
theorem ds_set {i d0 : Nat} {x : Str} {pos' : Pos} (he : DE X c e d0 [] M g) (hN : X.N.Nodup) (hd : c.dep i = d0 := by rfl) (hi : i ∉ c.ino := by decide) (hx : X.N[i]? = some x := by rfl) (hl : Loc X.env.scope x := by first | exact .inl rfl | exact .inr rfl)
    (hs : swapsWith e (some (.Name x pos')) pos.line X.env = pure false := by rfl) (hf : X.fn x = true ∨ X.env.scope.names.lookup x = some .local := by first | exact .inl rfl | exact .inr rfl) : DS X c n (.Assign [.Name x pos'] e pos) (i :: M) (sSet i g) := by
  subst hd
  exact ds_setT (te := tD X.K c (c.dep i) [] M g) (ps_set hN hx hl he hs hf) hi
/-- name op= e, whole numbers -/
def sAug (i : Nat) (sem : D → D → Option D) (g : GE) : GS := fun ρ => (g ρ).bind fun p => match ρ[i]? with
  | some (some x) => (sem x p.1).map fun z => .nx (p.2.set i (some z))
  | _ => none
theorem ds_aug {i : Nat} {x : Str} {pos' : Pos} {op : Operator} {sem : D → D → Option D} (ho : OpD X (inplaceOp op) 0 0 0 sem) (he : DE X c e 0 [] M g) (hN : X.N.Nodup) (hd : c.dep i = 0 := by rfl) (hi : i ∉ c.ino := by decide) (hx : X.N[i]? = some x := by rfl) (hl : Loc X.env.scope x := by first | exact .inl rfl | exact .inr rfl)
    (hf : X.fn x = true ∨ X.env.scope.names.lookup x = some .local := by first | exact .inl rfl | exact .inr rfl) : DS X c n (.AugAssign (.Name x pos') op e pos) (i :: M) (sAug i sem g) := by
  obtain ⟨r, hr, q⟩ := ho.ex
  refine PS.imp (ps_aug hN hx hl he (fun pins s σ H x y v u Q I rx ry w => hr pins s σ H x y v u Q I rx ry w) hf) fun Ds σ H w => ?_
  obtain ⟨A, F, ρ, o, S, eg, k⟩ := w
  unfold sAug at eg
  cases e1 : g ρ with
  | none => rw [e1] at eg; cases eg
  | some p =>
    obtain ⟨d, ρ1⟩ := p
    rw [e1] at eg
    simp only [Option.bind_some] at eg
    split at eg
    · rename_i x0 ex0
      cases e3 : sem x0 d with
      | none => rw [e3] at eg; cases eg
      | some z =>
        rw [e3] at eg
        cases eg
        obtain ⟨vx, hvx, ox⟩ := S.own i x0 ex0
        rw [hd] at ox
        have ox0 := (Own.zero.mp ox).1
        have hil : i < σ.length := (List.getElem?_eq_some_iff.mp hvx).1
        refine ⟨vx, hvx, A, F, ρ, d, ρ1, S, e1, fun v A1 F1 H1 S1 N1 r1 => ?_⟩
        refine q F1 H1 vx v x0 d z [] [] S1.ex (.inl ⟨Dp.ex N1.exF _ _ ox0, rfl⟩) (.inl ⟨r1.froz0, rfl⟩) e3 _ (fin_op (n3 := 0) S1 N1 fun v' A' F' H' S' N' r' => ?_)
        obtain ⟨A2, S2, N2⟩ := put_slot (i := i) S' N' (by rw [hd]; exact r') hil
        exact k _ A2 F' H' S2 N2 (sameB_set hi)
    · cases eg
/-! ### targets -/
abbrev GG := Env → D → Option Env
def OutW (W : List Nat) (σ σ' : L2.St) : Prop := σ'.length = σ.length ∧ ∀ i, i ∉ W → σ'[i]? = σ[i]?
def tG (K : Fr) (c : Cfg) (W : List Nat) (gt : GG) : TG := fun v σ H Q => ∃ A F ρ d ρ', StOk K c A ρ F σ H ∧ Dp K F v d ∧ gt ρ d = some ρ' ∧
  ∀ σ', StOk K c A ρ' F σ' H → OutW W σ σ' → Q σ' H
def tGs (K : Fr) (c : Cfg) (W : List Nat) (gt : Env → List D → Option Env) : TGs := fun vs σ H Q => ∃ A F ρ ds ρ', StOk K c A ρ F σ H ∧ DpAll K F vs ds ∧ gt ρ ds = some ρ' ∧
  ∀ σ', StOk K c A ρ' F σ' H → OutW W σ σ' → Q σ' H
theorem PG.imp {e : Expr} {t t' : TG} (h : PG X e t) (q : ∀ v σ H Q, t' v σ H Q → t v σ H Q) : PG X e t' := ⟨fun pins s σ H v u Q I r w => h.run pins s σ H v u Q I r (q _ _ _ _ w)⟩
theorem PGs.imp {e : List Expr} {t t' : TGs} (h : PGs X e t) (q : ∀ v σ H Q, t' v σ H Q → t v σ H Q) : PGs X e t' := ⟨fun pins s σ H v u Q I r w => h.run pins s σ H v u Q I r (q _ _ _ _ w)⟩
def DG (X : Cx) (c : Cfg) (e : Expr) (W : List Nat) (gt : GG) : Prop := PG X e (tG X.K c W gt)
def DGs (X : Cx) (c : Cfg) (es : List Expr) (W : List Nat) (gt : Env → List D → Option Env) : Prop := PGs X es (tGs X.K c W gt)
def ggName (i : Nat) : GG := fun ρ d => if i < ρ.length then some (ρ.set i (some d)) else none
theorem put_name {K : Fr} {A : Nat → List Addr} {ρ : Env} {F H : Hp} {σ : L2.St} {i : Nat} {v : V} {d : D} (S : StOk K c A ρ F σ H) (h : Dp K F v d) (hd : c.dep i = 0) (hi : i < σ.length) : StOk K c A (ρ.set i (some d)) F (σ.set i (some v)) H := by
  have hA : A i = [] := by
    cases q : ρ[i]? with
    | none => exact S.no i fun d e => by rw [q] at e; cases e
    | some o =>
      cases o with
      | none => exact S.no i fun d e => by rw [q] at e; cases e
      | some d' =>
        obtain ⟨_, _, ho⟩ := S.own i d' q
        rw [hd] at ho
        exact (Own.zero.mp ho).2
  have hi' : i < ρ.length := by rw [S.len]; exact hi
  refine ⟨S.ex, by simpa using S.len, fun j d' e1 => ?_, fun j hj => ?_, S.dis⟩
  · by_cases hji : j = i
    · subst hji
      rw [List.getElem?_set_self hi'] at e1
      cases e1
      exact ⟨v, List.getElem?_set_self hi, by rw [hA, hd]; exact Own.froz0 h⟩
    · rw [List.getElem?_set_ne (Ne.symm hji)] at e1
      obtain ⟨w, h1, h2⟩ := S.own j d' e1
      exact ⟨w, by rw [List.getElem?_set_ne (Ne.symm hji)]; exact h1, h2⟩
  · by_cases hji : j = i
    · rw [hji]; exact hA
    · exact S.no j fun d' e1 => hj d' (by rw [List.getElem?_set_ne (Ne.symm hji)]; exact e1)
theorem dg_name {i : Nat} {x : Str} (hN : X.N.Nodup) (hd : c.dep i = 0 := by rfl) (hx : X.N[i]? = some x := by rfl) (hl : Loc X.env.scope x := by first | exact .inl rfl | exact .inr rfl)
    (hf : X.fn x = true ∨ X.env.scope.names.lookup x = some .local := by first | exact .inl rfl | exact .inr rfl) : DG X c (.Name x pos) [i] (ggName i) := by
  refine PG.imp (pg_name hN hx hl hf) fun v σ H Q w => ?_
  obtain ⟨A, F, ρ, d, ρ', S, h, eg, k⟩ := w
  unfold ggName at eg
  split at eg
  · rename_i hi
    cases eg
    exact k _ (put_name S h hd (by rw [← S.len]; exact hi)) ⟨by simp, fun j hj => List.getElem?_set_ne fun z => hj (by simp [z])⟩
  · cases eg
theorem dgs_nil : DGs X c [] [] (fun ρ ds => if ds.isEmpty then some ρ else none) := by
  refine PGs.imp pgs_nil fun vs σ H Q w => ?_
  obtain ⟨A, F, ρ, ds, ρ', S, h, eg, k⟩ := w
  cases ds with
  | nil =>
    cases h
    cases eg
    exact ⟨rfl, k σ S ⟨rfl, fun _ _ => rfl⟩⟩
  | cons _ _ => cases eg
def ggCons (g : GG) (r : Env → List D → Option Env) : Env → List D → Option Env := fun ρ ds => match ds with
  | d :: ds => (g ρ d).bind fun ρ1 => r ρ1 ds
  | [] => none
theorem dgs_cons {W W2 : List Nat} {gt : GG} {r : Env → List D → Option Env} (h1 : DG X c e W gt) (h2 : DGs X c es W2 r) (hs : (assignEach (e :: es) X.env).map (·.2) = assign e X.env :: (assignEach es X.env).map (·.2) := by rfl) : DGs X c (e :: es) (W ++ W2) (ggCons gt r) := by
  refine PGs.imp (pgs_cons h1 h2 hs) fun vs σ H Q w => ?_
  obtain ⟨A, F, ρ, ds, ρ', S, h, eg, k⟩ := w
  cases ds with
  | nil => cases eg
  | cons d ds =>
    cases h with
    | cons q1 q2 =>
      simp only [ggCons] at eg
      cases e1 : gt ρ d with
      | none => rw [e1] at eg; cases eg
      | some ρ1 =>
        rw [e1] at eg
        exact ⟨_, _, rfl, A, F, ρ, d, ρ1, S, q1, e1, fun σ1 S1 o1 => ⟨A, F, ρ1, ds, ρ', S1, q2, eg, fun σ2 S2 o2 => k σ2 S2 ⟨o2.1.trans o1.1, fun i hi => (o2.2 i fun z => hi (List.mem_append_right _ z)).trans (o1.2 i fun z => hi (List.mem_append_left _ z))⟩⟩⟩
def ggTup (m : Nat) (r : Env → List D → Option Env) : GG := fun ρ d => match d with
  | .tuple ds => if ds.length = m then r ρ ds else none
  | _ => none
theorem dg_tup {W : List Nat} {r : Env → List D → Option Env} {k m : Nat} (hc : X.calm = true) (h : DGs X c es W r) (hn : (assignEach es X.env).length = m := by rfl) (hst : (assignEach es X.env).findIdx? (·.1) = none := by rfl) : DG X c (.Tuple es k pos) W (ggTup m r) := by
  refine PG.imp (pg_tup hc h hn hst) fun v σ H Q w => ?_
  obtain ⟨A, F, ρ, d, ρ', S, h, eg, k⟩ := w
  cases d <;> simp only [ggTup] at eg <;> first | cases eg | skip
  split at eg
  · rename_i ds hl
    cases h with
    | tup hs ha => exact ⟨_, _, rfl, SqT.of (S.ex _ _ hs), (dpAll_len ha).trans hl, A, F, ρ, _, ρ', S, ha, eg, k⟩
  · cases eg
/-- target = e, the target names -/
def sAsg (gt : GG) (g : GE) : GS := fun ρ => (g ρ).bind fun p => (gt p.2 p.1).map .nx
theorem ds_asg {W : List Nat} {gt : GG} {tg : Expr} (he : DE X c e 0 [] M g) (hg : DG X c tg W gt) (hW : ∀ i ∈ c.ino, i ∉ W := by decide) (hs : swapsWithSole [tg] e pos.line X.env = pure false := by rfl) (hw : swappedStores [tg] e X.env = pure none := by rfl)
    (h1 : (assignEach [tg] X.env).map (·.2) = [assign tg X.env] := by rfl) : DS X c n (.Assign [tg] e pos) M (sAsg gt g) := by
  refine PS.imp (ps_asg he hg hs hw h1) fun Ds σ H w => ?_
  obtain ⟨A, F, ρ, o, S, eg, k⟩ := w
  unfold sAsg at eg
  cases e1 : g ρ with
  | none => rw [e1] at eg; cases eg
  | some p =>
    obtain ⟨d, ρ1⟩ := p
    rw [e1] at eg
    simp only [Option.bind_some] at eg
    cases e2 : gt ρ1 d with
    | none => rw [e2] at eg; cases eg
    | some ρ2 =>
      rw [e2] at eg
      cases eg
      refine ⟨A, F, ρ, d, ρ1, S, e1, fun v A1 F1 H1 S1 N1 r1 => ?_⟩
      exact ⟨A1, F1, ρ1, d, ρ2, S1, r1.froz0, e2, fun σ' S' o' => k σ' A1 F1 H1 S' N1 ⟨o'.1, fun i hi => o'.2 i (hW i hi)⟩⟩
end
end DL

set_option Elab.async false
set_option linter.all false
set_option maxRecDepth 100000
set_option maxHeartbeats 2000000
namespace DL
open PySem L2 PyProof.Rows
/-! ### what is walked -/
abbrev GI := Env → Option (List D × Env)
def ItsOk (K : Fr) (c : Cfg) (J : It) (ds : List D) (deps : List Nat) (A : Nat → List Addr) (F H : Hp) : Prop :=
  ∀ A2 F2 H2 ρ2 σ2 M2, Nxt M2 A F H A2 F2 H2 → StOk K c A2 ρ2 F2 σ2 H2 → (∀ i ∈ deps, i ∉ M2) →
    (∀ i d, ds[i]? = some d → J.go i H2 ∧ ∀ x H3, J.yld i H2 x H3 → ∃ F3, Gr F2 H2 F3 H3 ∧ Dp K F3 x d) ∧ J.stop ds.length H2
def tI (K : Fr) (c : Cfg) (deps M : List Nat) (g : GI) : TI := fun σ H R => ∃ A F ρ ds ρ', StOk K c A ρ F σ H ∧ g ρ = some (ds, ρ') ∧
  ∀ J A' F' H', StOk K c A' ρ' F' σ H' → Nxt M A F H A' F' H' → ItsOk K c J ds deps A' F' H' → R J H'
theorem PI.imp {X : Cx} {tg e : Expr} {t t' : TI} (h : PI X tg e t) (q : ∀ σ H R, t' σ H R → t σ H R) : PI X tg e t' := ⟨fun pins s σ H R I w => h.run pins s σ H R I (q _ _ _ w)⟩
def DI (X : Cx) (c : Cfg) (tg e : Expr) (deps M : List Nat) (g : GI) : Prop := PI X tg e (tI X.K c deps M g)
def giL (g : GE) : GI := fun ρ => (g ρ).bind fun p => match p.1 with
  | .list ds => some (ds, p.2)
  | _ => none
def giT (g : GE) : GI := fun ρ => (g ρ).bind fun p => match p.1 with
  | .tuple ds => some (ds, p.2)
  | _ => none
theorem giL_some {g : GE} {ρ ρ' : Env} {ds : List D} (h : giL g ρ = some (ds, ρ')) : g ρ = some (.list ds, ρ') := by
  unfold giL at h
  cases e1 : g ρ with
  | none => rw [e1] at h; cases h
  | some p =>
    obtain ⟨d, ρ1⟩ := p
    rw [e1] at h
    cases d <;> simp at h
    obtain ⟨rfl, rfl⟩ := h
    rfl
theorem giT_some {g : GE} {ρ ρ' : Env} {ds : List D} (h : giT g ρ = some (ds, ρ')) : g ρ = some (.tuple ds, ρ') := by
  unfold giT at h
  cases e1 : g ρ with
  | none => rw [e1] at h; cases h
  | some p =>
    obtain ⟨d, ρ1⟩ := p
    rw [e1] at h
    cases d <;> simp at h
    obtain ⟨rfl, rfl⟩ := h
    rfl
section
variable {X : Cx} {c : Cfg} {e a b tg : Expr} {es : List Expr} {n n1 n2 n3 m1 m2 : Nat} {da db Ma Mb M M2 deps : List Nat} {ga gb g : GE} {pos p : Pos} {st : Stmt} {rest : List Stmt} {f h : GS}
theorem di_list (he : DE X c e n1 deps M g) (hm : n1 = 0 ∨ n1 = 1 := by decide) : DI X c tg e deps M (giL g) := by
  refine PI.imp (pi_list he) fun σ H R w => ?_
  obtain ⟨A, F, ρ, ds, ρ', S, eg, k⟩ := w
  refine ⟨A, F, ρ, .list ds, ρ', S, giL_some eg, fun v A1 F1 H1 S1 N1 r1 => ?_⟩
  obtain ⟨B, ho, hB⟩ := id r1
  obtain ⟨a, vs, rfl, s1, a1⟩ := OwnL.lst1 S1.ex (ho.l (n := 1) hm)
  refine ⟨a, rfl, ⟨vs, s1⟩, k _ A1 F1 H1 S1 N1 fun A2 F2 H2 ρ2 σ2 M2 N2 S2 hd => ?_⟩
  obtain ⟨B2, ho2, _⟩ := r1.later N2 S2 hd
  obtain ⟨a', ws, e2, s2, a2⟩ := OwnL.lst1 S2.ex (ho2.l (n := 1) hm)
  cases e2
  refine ⟨fun i d hi => ?_, ⟨ws, s2, Nat.le_of_eq (dpAll_len a2)⟩⟩
  obtain ⟨v, h1, h2⟩ := dpAll_get a2 hi
  refine ⟨⟨ws, v, s2, h1⟩, fun x H3 y => ?_⟩
  obtain ⟨e3, y⟩ := y
  subst e3
  have := y ws s2
  rw [h1] at this
  cases this
  exact ⟨F2, Gr.refl S2.ex, h2⟩
theorem di_tup (he : DE X c e 0 deps M g) : DI X c tg e [] M (giT g) := by
  refine PI.imp (pi_tup he) fun σ H R w => ?_
  obtain ⟨A, F, ρ, ds, ρ', S, eg, k⟩ := w
  refine ⟨A, F, ρ, .tuple ds, ρ', S, giT_some eg, fun v A1 F1 H1 S1 N1 r1 => ?_⟩
  have hf := r1.froz0
  cases hf with
  | tup s1 a1 =>
  refine ⟨_, rfl, ⟨_, SqT.of (S1.ex _ _ s1)⟩, k _ A1 F1 H1 S1 N1 fun A2 F2 H2 ρ2 σ2 M2 N2 S2 hd => ?_⟩
  have s2 := N2.exF _ _ s1
  have a2 := Dp.exAll N2.exF _ _ a1
  refine ⟨fun i d hi => ?_, ⟨_, SqT.of (S2.ex _ _ s2), Nat.le_of_eq (dpAll_len a2)⟩⟩
  obtain ⟨v, h1, h2⟩ := dpAll_get a2 hi
  refine ⟨⟨_, v, SqT.of (S2.ex _ _ s2), h1⟩, fun x H3 y => ?_⟩
  obtain ⟨e3, y⟩ := y
  subst e3
  have := y _ (SqT.of (S2.ex _ _ s2))
  rw [h1] at this
  cases this
  exact ⟨F2, Gr.refl S2.ex, h2⟩
def rngL (lo : Int) (n : Nat) : List D := (List.range n).map fun (k : Nat) => .int (lo + (k : Int))
theorem its_range {K : Fr} {A : Nat → List Addr} {F H : Hp} {lo : Int} {m : Nat} : ItsOk K c (Itr lo m) (rngL lo m) [] A F H := fun A2 F2 H2 ρ2 σ2 M2 N2 S2 hd => by
  refine ⟨fun i d hi => ?_, ?_⟩
  · unfold rngL at hi
    rw [List.getElem?_map] at hi
    cases q : (List.range m)[i]? with
    | none => rw [q] at hi; cases hi
    | some j =>
      rw [q] at hi
      cases hi
      obtain ⟨h1, h2⟩ := List.getElem?_eq_some_iff.mp q
      rw [List.getElem_range] at h2
      subst h2
      refine ⟨show i < m by simpa using h1, fun x H3 y => ?_⟩
      obtain ⟨e3, y⟩ := y
      subst e3 y
      exact ⟨F2, Gr.refl S2.ex, .int _⟩
  · show m ≤ (rngL lo m).length
    simp [rngL]
theorem rngOk_ex : ∃ f : Int → Bool, ∀ i, f i = (decide (-4611686018427387904 ≤ i) && decide (i < 4611686018427387904)) := ⟨_, fun _ => rfl⟩
noncomputable def rngOk : Int → Bool := Classical.choose rngOk_ex
theorem rngOk_eq (i : Int) : rngOk i = (decide (-4611686018427387904 ≤ i) && decide (i < 4611686018427387904)) := Classical.choose_spec rngOk_ex i
theorem rngOk_ok {i : Int} (h : rngOk i = true) : -(2 ^ 62) ≤ i ∧ i < 2 ^ 62 := by
  rw [rngOk_eq] at h
  simp only [Bool.and_eq_true, decide_eq_true_eq] at h
  omega
noncomputable def giR1 (g : GE) : GI := fun ρ => (g ρ).bind fun p => match p.1 with
  | .int j => if rngOk j = true then some (rngL 0 j.toNat, p.2) else none
  | _ => none
noncomputable def giR2 (ga gb : GE) : GI := fun ρ => (ga ρ).bind fun p => (gb p.2).bind fun q => match p.1, q.1 with
  | .int i, .int j => if rngOk i = true ∧ rngOk j = true then some (rngL i (j - i).toNat, q.2) else none
  | _, _ => none
theorem di_rng1 (ha : DE X c a 0 da Ma ga) (hm : X.mg "range" = none) (hg : Gl X "range" := by rfl) (hs : starEach [a] X.env = [(false, eval a X.env)] := by rfl) : DI X c tg (.Call (.Name "range" p) [a] [] pos) [] Ma (giR1 ga) := by
  refine PI.imp (pi_range1 hg hm (pa_cons ha pa_nil hs) hs) fun σ H R w => ?_
  obtain ⟨A, F, ρ, ds, ρ', S, eg, k⟩ := w
  unfold giR1 at eg
  cases e1 : ga ρ with
  | none => rw [e1] at eg; cases eg
  | some q =>
    obtain ⟨d, ρ1⟩ := q
    rw [e1] at eg
    cases d <;> simp only [Option.bind_some] at eg <;> first | cases eg | skip
    split at eg
    · rename_i j hj
      cases eg
      refine ⟨A, F, ρ, .int j, _, S, e1, fun v A1 F1 H1 S1 N1 r1 => ?_⟩
      have hf := r1.froz0
      cases hf
      exact ⟨j, rfl, (rngOk_ok hj).1, (rngOk_ok hj).2, k _ A1 F1 H1 S1 N1 its_range⟩
    · cases eg
theorem di_rng2 (ha : DE X c a 0 da Ma ga) (hb : DE X c b 0 db Mb gb) (hm : X.mg "range" = none) (hg : Gl X "range" := by rfl) (hs : starEach [a, b] X.env = [(false, eval a X.env), (false, eval b X.env)] := by rfl) (hs2 : starEach [b] X.env = [(false, eval b X.env)] := by rfl)
    (hs3 : starEach (a :: [b]) X.env = (false, eval a X.env) :: starEach [b] X.env := by rfl) : DI X c tg (.Call (.Name "range" p) [a, b] [] pos) [] (Ma ++ Mb) (giR2 ga gb) := by
  refine PI.imp (pi_range2 hg hm (pa_cons ha (pa_cons hb pa_nil hs2) hs3) hs hs2) fun σ H R w => ?_
  obtain ⟨A, F, ρ, ds, ρ', S, eg, k⟩ := w
  unfold giR2 at eg
  cases e1 : ga ρ with
  | none => rw [e1] at eg; cases eg
  | some q =>
    obtain ⟨d, ρ1⟩ := q
    rw [e1] at eg
    simp only [Option.bind_some] at eg
    cases e2 : gb ρ1 with
    | none => rw [e2] at eg; cases eg
    | some q =>
      obtain ⟨d', ρ2⟩ := q
      rw [e2] at eg
      simp only [Option.bind_some] at eg
      cases d <;> cases d' <;> simp only [] at eg <;> first | cases eg | skip
      split at eg
      · rename_i i j hj
        cases eg
        refine ⟨A, F, ρ, .int i, ρ1, S, e1, fun v A1 F1 H1 S1 N1 r1 => ?_⟩
        have hf := r1.froz0
        cases hf
        refine ⟨A1, F1, ρ1, .int j, _, S1, e2, fun v A2 F2 H2 S2 N2 r2 => ?_⟩
        have hf := r2.froz0
        cases hf
        exact ⟨i, j, rfl, ⟨(rngOk_ok hj.1).1, (rngOk_ok hj.1).2, (rngOk_ok hj.2).1, (rngOk_ok hj.2).2⟩, k _ A2 F2 H2 S2 (N1.trans N2) its_range⟩
      · cases eg
/-! ### for -/
def sForL (gt : GG) (f : GS) : List D → Env → Option Out
  | [], ρ => some (.nx ρ)
  | d :: ds, ρ => (gt ρ d).bind fun ρ1 => (f ρ1).bind fun
    | .nx ρ2 => sForL gt f ds ρ2
    | .ct ρ2 => sForL gt f ds ρ2
    | .bk ρ2 => some (.nx ρ2)
    | .rt d ρ2 => some (.rt d ρ2)
def sFor (gi : GI) (gt : GG) (f : GS) : GS := fun ρ => (gi ρ).bind fun p => sForL gt f p.1 p.2
/-- what is wanted behind an outcome -/
def Cont (K : Fr) (c : Cfg) (n : Nat) (M : List Nat) (Ds : Ends) (o : Out) (A : Nat → List Addr) (F : Hp) (σ : L2.St) (H : Hp) : Prop :=
  match o with
  | .nx ρ' => Beh K c M A F σ H ρ' Ds.nx
  | .bk ρ' => Beh K c M A F σ H ρ' Ds.bk
  | .ct ρ' => Beh K c M A F σ H ρ' Ds.ct
  | .rt d ρ' => ∀ v σ' A' F' H', StOk K c A' ρ' F' σ' H' → Nxt M A F H A' F' H' → SameB c σ σ' → Res K A H [] n A' F' H' v d → Ds.rt v H'
theorem Cont.step {K : Fr} {M M' : List Nat} {A A1 : Nat → List Addr} {F H F1 H1 : Hp} {σ σ1 : L2.St} {Ds : Ends} {o : Out} (k : Cont K c n M Ds o A F σ H) (N : Nxt M' A F H A1 F1 H1) (s : SameB c σ σ1) (hM : ∀ i, i ∈ M' → i ∈ M) : Cont K c n M Ds o A1 F1 σ1 H1 := by
  cases o with
  | nx ρ' => exact Beh.step k N s hM
  | bk ρ' => exact Beh.step k N s hM
  | ct ρ' => exact Beh.step k N s hM
  | rt d ρ' => exact fun v σ' A' F' H' S' N' s' r => k v σ' A' F' H' S' ((N.trans N').mono fun i hi => (List.mem_append.mp hi).elim (hM i) id) (s.trans s') (r.back N)
theorem sForL_out {gt : GG} {f : GS} : ∀ {ds : List D} {ρ : Env} {o : Out}, sForL gt f ds ρ = some o → (∃ ρ', o = .nx ρ') ∨ ∃ d ρ', o = .rt d ρ'
  | [], ρ, o, h => by
    simp only [sForL, Option.some.injEq] at h
    exact .inl ⟨ρ, h.symm⟩
  | d :: ds, ρ, o, h => by
    simp only [sForL] at h
    cases e1 : gt ρ d with
    | none => rw [e1] at h; cases h
    | some ρ1 =>
      rw [e1] at h
      simp only [Option.bind_some] at h
      cases e2 : f ρ1 with
      | none => rw [e2] at h; cases h
      | some o1 =>
        rw [e2] at h
        cases o1 with
        | nx ρ2 => exact sForL_out h
        | ct ρ2 => exact sForL_out h
        | bk ρ2 => simp only [Option.bind_some, Option.some.injEq] at h; exact .inl ⟨_, h.symm⟩
        | rt d ρ2 => simp only [Option.bind_some, Option.some.injEq] at h; exact .inr ⟨_, _, h.symm⟩
theorem Nxt.after {A A1 A2 : Nat → List Addr} {F H F1 H1 F2 H2 : Hp} (n : Nxt M A F H A1 F1 H1) (m : Nxt M A1 F1 H1 A2 F2 H2) : Nxt M A F H A2 F2 H2 := (n.trans m).mono fun i hi => (List.mem_append.mp hi).elim id id
theorem Nxt.after0 {A A1 A2 : Nat → List Addr} {F H F1 H1 F2 H2 : Hp} (n : Nxt M A F H A1 F1 H1) (m : Nxt [] A1 F1 H1 A2 F2 H2) : Nxt M A F H A2 F2 H2 := (n.trans m).mono fun i hi => (List.mem_append.mp hi).elim id (fun z => by simp at z)
theorem ds_for {gi : GI} {gt : GG} {W : List Nat} {iter : Expr} {body : List Stmt} (hp : PassesOwn (model X.prog X.w) X.A X.env X.xe) (hc : X.calm = true) (hi : DI X c tg iter deps Ma gi) (hg : DG X c tg W gt) (hb : DSs X c n body M f) (hd : ∀ i ∈ deps, i ∉ M := by decide) (hW : ∀ i ∈ c.ino, i ∉ W := by decide)
    (hs : ∀ x, foldedSetIterable iter X.env x = pure x := by intro _; rfl) : DS X c n (.For tg iter body [] pos) (Ma ++ M) (sFor gi gt f) := by
  refine PS.imp (ps_for hp hc hi hg hb hs) fun Ds σ H w => ?_
  obtain ⟨A, F, ρ, o, S, eg, k⟩ := w
  unfold sFor at eg
  cases e1 : gi ρ with
  | none => rw [e1] at eg; cases eg
  | some q =>
  obtain ⟨ds, ρ1⟩ := q
  rw [e1] at eg
  simp only [Option.bind_some] at eg
  refine ⟨A, F, ρ, ds, ρ1, S, e1, fun J A1 F1 H1 S1 N1 its => ?_⟩
  have k1 : Cont X.K c n (Ma ++ M) Ds o A1 F1 σ H1 := Cont.step k N1 SameB.refl fun i hi => List.mem_append_left _ hi
  clear k e1
  refine ⟨fun i m σ' H' => m = ds.length - i ∧ i ≤ ds.length ∧ ∃ A' F' ρ', StOk X.K c A' ρ' F' σ' H' ∧ Nxt M A1 F1 H1 A' F' H' ∧ SameB c σ σ' ∧ sForL gt f (ds.drop i) ρ' = some o, ⟨_, rfl, Nat.zero_le _, A1, F1, ρ1, S1, Nxt.refl.mono (fun i hi => by simp at hi), SameB.refl, by simpa using eg⟩, ?_⟩
  rintro i m σ2 H2 ⟨rfl, hil, A2, F2, ρ2, S2, N2, s2, eg2⟩
  have it2 := its A2 F2 H2 ρ2 σ2 M N2 S2 hd
  have k2 : Cont X.K c n (Ma ++ M) Ds o A2 F2 σ2 H2 := Cont.step k1 N2 s2 fun i hi => List.mem_append_right _ hi
  by_cases hlt : i < ds.length
  · refine .inr ?_
    have hdi : ds[i]? = some ds[i] := List.getElem?_eq_getElem hlt
    obtain ⟨hgo, hy⟩ := it2.1 i _ hdi
    rw [List.drop_eq_getElem_cons hlt] at eg2
    simp only [sForL] at eg2
    cases e3 : gt ρ2 ds[i] with
    | none => rw [e3] at eg2; cases eg2
    | some ρ3 =>
    rw [e3] at eg2
    simp only [Option.bind_some] at eg2
    cases e4 : f ρ3 with
    | none => rw [e4] at eg2; cases eg2
    | some o1 =>
    rw [e4] at eg2
    simp only [Option.bind_some] at eg2
    refine ⟨hgo, fun σ' H' => ∃ A' F' ρ', StOk X.K c A' ρ' F' σ' H' ∧ Nxt M A1 F1 H1 A' F' H' ∧ SameB c σ σ' ∧ sForL gt f (ds.drop (i + 1)) ρ' = some o, fun σ' H' w => ⟨ds.length - (i + 1), by omega, rfl, hlt, w⟩, fun x H3 y => ?_⟩
    obtain ⟨F3, gr, hdp⟩ := hy x H3 y
    have S3 := S2.grown gr
    have N3 : Nxt [] A2 F2 H2 A2 F3 H3 := Nxt.grown gr fun i a ha => (S2.cell ha).1
    refine ⟨A2, F3, ρ2, ds[i], ρ3, S3, hdp, e3, fun σ4 S4 o4 => ?_⟩
    have s4 : SameB c σ2 σ4 := ⟨o4.1, fun i hi => o4.2 i (hW i hi)⟩
    have again : ∀ ρ', sForL gt f (ds.drop (i + 1)) ρ' = some o → Beh X.K c M A2 F3 σ4 H3 ρ' (fun σ' H' => ∃ A' F' ρ', StOk X.K c A' ρ' F' σ' H' ∧ Nxt M A1 F1 H1 A' F' H' ∧ SameB c σ σ' ∧ sForL gt f (ds.drop (i + 1)) ρ' = some o) :=
      fun ρ' eg' σ' A' F' H' S' N' s' => ⟨A', F', ρ', S', (N2.after0 N3).after N', (s2.trans s4).trans s', eg'⟩
    refine ⟨A2, F3, ρ3, o1, S4, e4, ?_⟩
    have k3 : Cont X.K c n (Ma ++ M) Ds o A2 F3 σ4 H3 := Cont.step k2 N3 s4 fun i hi => by simp at hi
    cases o1 with
    | nx ρ' => exact again ρ' eg2
    | ct ρ' => exact again ρ' eg2
    | bk ρ' =>
      cases eg2
      exact fun σ' A' F' H' S' N' s' => k3 σ' A' F' H' S' (N'.mono fun i hi => List.mem_append_right _ hi) s'
    | rt d ρ' =>
      cases eg2
      exact fun v σ' A' F' H' S' N' s' r => k3 v σ' A' F' H' S' (N'.mono fun i hi => List.mem_append_right _ hi) s' r
  · have e5 : i = ds.length := by omega
    subst e5
    rw [List.drop_length] at eg2
    cases eg2
    exact .inl ⟨it2.2, k2 σ2 A2 F2 H2 S2 (Nxt.refl.mono fun i hi => by simp at hi) SameB.refl⟩
/-! ### while -/
def sWhL (t : GT) (f : GS) : Nat → Env → Option Out
  | 0, _ => none
  | m + 1, ρ => (t ρ).bind fun p => if p.1 = true then (f p.2).bind fun
      | .nx ρ2 => sWhL t f m ρ2
      | .ct ρ2 => sWhL t f m ρ2
      | .bk ρ2 => some (.nx ρ2)
      | .rt d ρ2 => some (.rt d ρ2)
    else some (.nx p.2)
def sWh (fuel : Nat) (t : GT) (f : GS) : GS := sWhL t f fuel
theorem ds_while {t : Expr} {gt : GT} {body : List Stmt} (fuel : Nat) (hp : PassesOwn (model X.prog X.w) X.A X.env X.xe) (ht : DT X c t Ma gt) (hb : DSs X c n body M f) : DS X c n (.While t body [] pos) (Ma ++ M) (sWh fuel gt f) := by
  refine PS.imp (ps_while hp ht hb) fun Ds σ H w => ?_
  obtain ⟨A, F, ρ, o, S, eg, k⟩ := w
  have k0 : Cont X.K c n (Ma ++ M) Ds o A F σ H := k
  clear k
  unfold sWh at eg
  refine ⟨fun m σ' H' => ∃ A' F' ρ', StOk X.K c A' ρ' F' σ' H' ∧ Cont X.K c n (Ma ++ M) Ds o A' F' σ' H' ∧ sWhL gt f m ρ' = some o, ⟨fuel, A, F, ρ, S, k0, eg⟩, ?_⟩
  rintro m σ2 H2 ⟨A2, F2, ρ2, S2, k2, eg2⟩
  cases m with
  | zero => cases eg2
  | succ m =>
  simp only [sWhL] at eg2
  cases e3 : gt ρ2 with
  | none => rw [e3] at eg2; cases eg2
  | some q =>
  obtain ⟨b, ρ3⟩ := q
  rw [e3] at eg2
  simp only [Option.bind_some] at eg2
  refine ⟨A2, F2, ρ2, b, ρ3, S2, e3, fun A3 F3 H3 S3 N3 => ?_⟩
  have k3 := Cont.step (σ1 := σ2) k2 N3 SameB.refl fun i hi => List.mem_append_left _ hi
  cases b with
  | false =>
    rw [if_neg Bool.false_ne_true] at eg2
    cases eg2
    exact k3 σ2 A3 F3 H3 S3 (Nxt.refl.mono fun i hi => by simp at hi) SameB.refl
  | true =>
    rw [if_pos rfl] at eg2
    cases e4 : f ρ3 with
    | none => rw [e4] at eg2; cases eg2
    | some o1 =>
    rw [e4] at eg2
    simp only [Option.bind_some] at eg2
    refine ⟨fun σ' H' => ∃ A' F' ρ', StOk X.K c A' ρ' F' σ' H' ∧ Cont X.K c n (Ma ++ M) Ds o A' F' σ' H' ∧ sWhL gt f m ρ' = some o, fun σ' H' w => ⟨m, Nat.lt_succ_self _, w⟩, ?_⟩
    have again : ∀ ρ', sWhL gt f m ρ' = some o → Beh X.K c M A3 F3 σ2 H3 ρ' (fun σ' H' => ∃ A' F' ρ', StOk X.K c A' ρ' F' σ' H' ∧ Cont X.K c n (Ma ++ M) Ds o A' F' σ' H' ∧ sWhL gt f m ρ' = some o) :=
      fun ρ' eg' σ' A' F' H' S' N' s' => ⟨A', F', ρ', S', Cont.step k3 N' s' fun i hi => List.mem_append_right _ hi, eg'⟩
    refine ⟨A3, F3, ρ3, o1, S3, e4, ?_⟩
    cases o1 with
    | nx ρ' => exact again ρ' eg2
    | ct ρ' => exact again ρ' eg2
    | bk ρ' =>
      cases eg2
      exact fun σ' A' F' H' S' N' s' => k3 σ' A' F' H' S' (N'.mono fun i hi => List.mem_append_right _ hi) s'
    | rt d ρ' =>
      cases eg2
      exact fun v σ' A' F' H' S' N' s' r => k3 v σ' A' F' H' S' (N'.mono fun i hi => List.mem_append_right _ hi) s' r
end
end DL

set_option Elab.async false
set_option linter.all false
set_option maxRecDepth 100000
set_option maxHeartbeats 2000000
namespace DL
open PySem L2 PyProof.Rows
/-! ### comprehensions -/
def wipeE (ρ : Env) : List Nat → Env
  | [] => ρ
  | v :: vs => (wipeE ρ vs).set v none
/-- the block's names as they were ahead of it -/
def backE (ρ0 : Env) (ρ : Env) : List Nat → Env
  | [] => ρ
  | v :: vs => match ρ0[v]? with
    | some x => (backE ρ0 ρ vs).set v x
    | none => backE ρ0 ρ vs
theorem wipeE_length (ρ : Env) : ∀ vs, (wipeE ρ vs).length = ρ.length
  | [] => rfl
  | v :: vs => by unfold wipeE; rw [List.length_set, wipeE_length ρ vs]
theorem wipeE_in {ρ : Env} {i : Nat} : ∀ {vs : List Nat}, i ∈ vs → ∀ d, (wipeE ρ vs)[i]? ≠ some (some d)
  | v :: vs, h, d => by
    unfold wipeE
    by_cases hv : v = i
    · subst hv
      by_cases hl : v < (wipeE ρ vs).length
      · rw [List.getElem?_set_self hl]
        simp
      · rw [List.getElem?_eq_none (by simpa using hl)]
        simp
    · rw [List.getElem?_set_ne hv]
      rcases List.mem_cons.mp h with z | z
      · exact absurd z.symm hv
      · exact wipeE_in z d
theorem wipeE_out {ρ : Env} {i : Nat} : ∀ {vs : List Nat}, i ∉ vs → (wipeE ρ vs)[i]? = ρ[i]?
  | [], _ => rfl
  | v :: vs, h => by
    have h1 : v ≠ i := fun e => h (by rw [e]; exact List.mem_cons_self)
    unfold wipeE
    rw [List.getElem?_set_ne h1]
    exact wipeE_out fun m => h (List.mem_cons_of_mem _ m)
theorem backE_length (ρ0 ρ : Env) : ∀ vs, (backE ρ0 ρ vs).length = ρ.length
  | [] => rfl
  | v :: vs => by
    unfold backE
    split
    · rw [List.length_set, backE_length ρ0 ρ vs]
    · exact backE_length ρ0 ρ vs
theorem backE_out {ρ0 ρ : Env} {i : Nat} : ∀ {vs : List Nat}, i ∉ vs → (backE ρ0 ρ vs)[i]? = ρ[i]?
  | [], _ => rfl
  | v :: vs, h => by
    have h1 : v ≠ i := fun e => h (by rw [e]; exact List.mem_cons_self)
    have ih := backE_out (ρ0 := ρ0) (ρ := ρ) (vs := vs) fun m => h (List.mem_cons_of_mem _ m)
    unfold backE
    split
    · rw [List.getElem?_set_ne h1]
      exact ih
    · exact ih
theorem backE_in {ρ0 ρ : Env} (hl : ρ0.length = ρ.length) {i : Nat} : ∀ {vs : List Nat}, i ∈ vs → (backE ρ0 ρ vs)[i]? = ρ0[i]?
  | v :: vs, h => by
    unfold backE
    by_cases hv : v = i
    · subst hv
      by_cases hlt : v < ρ0.length
      · rw [List.getElem?_eq_getElem hlt]
        simp only []
        rw [List.getElem?_set_self (by rw [backE_length, ← hl]; exact hlt)]
      · have hn : ρ0[v]? = none := List.getElem?_eq_none (Nat.le_of_not_lt hlt)
        simp only [hn]
        exact List.getElem?_eq_none (by rw [backE_length, ← hl]; exact Nat.le_of_not_lt hlt)
    · have ih : (backE ρ0 ρ vs)[i]? = ρ0[i]? := by
        rcases List.mem_cons.mp h with z | z
        · exact absurd z.symm hv
        · exact backE_in hl z
      split
      · rw [List.getElem?_set_ne hv]
        exact ih
      · exact ih
theorem wipe_in {σ : L2.St} {i : Nat} : ∀ {vs : List Nat}, i ∈ vs → (wipe σ vs)[i]? = none ∨ (wipe σ vs)[i]? = some none
  | v :: vs, h => by
    unfold wipe
    by_cases hv : v = i
    · subst hv
      by_cases hl : v < (wipe σ vs).length
      · rw [List.getElem?_set_self hl]
        exact .inr rfl
      · rw [List.getElem?_eq_none (by simpa using hl)]
        exact .inl rfl
    · rw [List.getElem?_set_ne hv]
      rcases List.mem_cons.mp h with z | z
      · exact absurd z.symm hv
      · exact wipe_in z
theorem wipe_eq {σ σ2 : L2.St} {vs W : List Nat} (o : OutW W (wipe σ vs) σ2) (hW : ∀ i ∈ W, i ∈ vs) : wipe σ2 vs = wipe σ vs := by
  have hl : σ2.length = σ.length := by rw [o.1, wipe_length]
  refine List.ext_getElem? fun i => ?_
  by_cases hi : i ∈ vs
  · have l1 := wipe_length σ vs
    have l2 := wipe_length σ2 vs
    by_cases hlt : i < σ.length
    · have a1 := wipe_in (σ := σ) hi
      have a2 := wipe_in (σ := σ2) hi
      have b1 : (wipe σ vs)[i]? ≠ none := by rw [List.getElem?_eq_getElem (by omega)]; simp
      have b2 : (wipe σ2 vs)[i]? ≠ none := by rw [List.getElem?_eq_getElem (by omega)]; simp
      rcases a1 with a1 | a1
      · exact absurd a1 b1
      · rcases a2 with a2 | a2
        · exact absurd a2 b2
        · rw [a1, a2]
    · rw [List.getElem?_eq_none (by omega), List.getElem?_eq_none (by omega)]
  · rw [wipe_out hi]
    exact o.2 i fun z => hi (hW i z)
theorem StOk.wiped {K : Fr} {c : Cfg} {A : Nat → List Addr} {ρ : Env} {F : Hp} {σ : L2.St} {H : Hp} (S : StOk K c A ρ F σ H) {vs : List Nat} (hd : ∀ i ∈ vs, c.dep i = 0) : StOk K c A (wipeE ρ vs) F (wipe σ vs) H := by
  refine ⟨S.ex, by rw [wipeE_length, wipe_length]; exact S.len, fun i d e => ?_, fun i hi => ?_, S.dis⟩
  · by_cases hv : i ∈ vs
    · exact absurd e (wipeE_in hv d)
    · rw [wipeE_out hv] at e
      obtain ⟨v, h1, h2⟩ := S.own i d e
      exact ⟨v, by rw [wipe_out hv]; exact h1, h2⟩
  · by_cases hv : i ∈ vs
    · cases q : ρ[i]? with
      | none => exact S.no i fun d e => by rw [q] at e; cases e
      | some o =>
        cases o with
        | none => exact S.no i fun d e => by rw [q] at e; cases e
        | some d =>
          obtain ⟨_, _, ho⟩ := S.own i d q
          rw [hd i hv] at ho
          exact (Own.zero.mp ho).2
    · exact S.no i fun d e => hi d (by rw [wipeE_out hv]; exact e)
theorem dep0_nil {K : Fr} {c : Cfg} {A : Nat → List Addr} {ρ : Env} {F : Hp} {σ : L2.St} {H : Hp} (S : StOk K c A ρ F σ H) {i : Nat} (hd : c.dep i = 0) : A i = [] := by
  cases q : ρ[i]? with
  | none => exact S.no i fun d e => by rw [q] at e; cases e
  | some o =>
    cases o with
    | none => exact S.no i fun d e => by rw [q] at e; cases e
    | some d =>
      obtain ⟨_, _, ho⟩ := S.own i d q
      rw [hd] at ho
      exact (Own.zero.mp ho).2
def lcL (own : List Nat) (gt : GG) (gc : GT) (ge : GE) : List D → Env → Option (List D × Env)
  | [], ρ => some ([], ρ)
  | d :: ds, ρ => (gt ρ d).bind fun ρ1 => (gc ρ1).bind fun p => if p.1 = true then (ge p.2).bind fun q => (lcL own gt gc ge ds (wipeE q.2 own)).map fun r => (q.1 :: r.1, r.2)
    else lcL own gt gc ge ds (wipeE p.2 own)
def gLc (own : List Nat) (gi : GI) (gt : GG) (gc : GT) (ge : GE) : GE := fun ρ => (gi ρ).bind fun p => if p.1.length ≤ lim then (lcL own gt gc ge p.1 (wipeE p.2 own)).map fun r => (.list r.1, backE p.2 r.2 own) else none
theorem nd_gLc {own : List Nat} {gi : GI} {gt : GG} {gc : GT} {ge : GE} : ND (gLc own gi gt gc ge) := fun ρ d ρ' h => by
  unfold gLc at h
  cases e1 : gi ρ with
  | none => rw [e1] at h; cases h
  | some p =>
    rw [e1] at h
    simp only [Option.bind_some] at h
    split at h
    · cases e2 : lcL own gt gc ge p.1 (wipeE p.2 own) with
      | none => rw [e2] at h; cases h
      | some q =>
        rw [e2] at h
        cases h
        rfl
    · cases h
def tGc (K : Fr) (c : Cfg) (M : List Nat) (g : GT) : TT := tT K c M g
theorem lcL_len {own : List Nat} {gt : GG} {gc : GT} {ge : GE} : ∀ {ds : List D} {ρ : Env} {r : List D × Env}, lcL own gt gc ge ds ρ = some r → r.1.length ≤ ds.length
  | [], ρ, r, h => by
    cases h
    exact Nat.le_refl _
  | d :: ds, ρ, r, h => by
    simp only [lcL] at h
    cases e1 : gt ρ d with
    | none => rw [e1] at h; cases h
    | some ρ1 =>
      rw [e1] at h
      simp only [Option.bind_some] at h
      cases e2 : gc ρ1 with
      | none => rw [e2] at h; cases h
      | some p =>
        rw [e2] at h
        simp only [Option.bind_some] at h
        split at h
        · cases e3 : ge p.2 with
          | none => rw [e3] at h; cases h
          | some q =>
            rw [e3] at h
            simp only [Option.bind_some] at h
            cases e4 : lcL own gt gc ge ds (wipeE q.2 own) with
            | none => rw [e4] at h; cases h
            | some r' =>
              rw [e4] at h
              cases h
              have := lcL_len e4
              simp only [List.length_cons]
              omega
        · have := lcL_len h
          simp only [List.length_cons]
          omega
def gcYes : GT := fun ρ => some (true, ρ)
def DTs (X : Cx) (c : Cfg) (ifs : List Expr) (M : List Nat) (g : GT) : Prop := PTs X ifs (tT X.K c M g)
theorem PTs.imp {X : Cx} {e : List Expr} {t t' : TT} (h : PTs X e t) (q : ∀ σ H Q, t' σ H Q → t σ H Q) : PTs X e t' := ⟨fun pins s σ H Q I w => h.run pins s σ H Q I (q _ _ _ w)⟩
section
variable {X : Cx} {c : Cfg} {e a b tg elt iter : Expr} {ifs : List Expr} {es : List Expr} {n n1 n2 n3 m1 m2 : Nat} {da db Ma Mb M M2 Mc Me deps W : List Nat} {ga gb g : GE} {pos p : Pos} {st : Stmt} {rest : List Stmt} {f h : GS}
theorem dts_nil : DTs X c [] [] gcYes := by
  refine PTs.imp pts_nil fun σ H Q w => ?_
  obtain ⟨A, F, ρ, d, ρ', S, eg, k⟩ := w
  cases eg
  exact k A F H S Nxt.refl
theorem dts_one {gc : GT} (ht : DT X c e M gc) : DTs X c [e] M gc := pts_one ht
theorem lc_read {K : Fr} {gi : GI} {gt : GG} {gc : GT} {ge : GE} {own : List Nat} {Q : VK} {σ : L2.St} {H : Hp} (hown : ∀ i ∈ own, c.dep i = 0) (hW : ∀ i ∈ W, i ∈ own) (hd : ∀ i ∈ deps, i ∉ Mc ++ Me)
    (w : tD K c 1 [] (Ma ++ (Mc ++ Me)) (gLc own gi gt gc ge) σ H Q) : tLc (tI K c deps Ma gi) (tG K c W gt) (tT K c Mc gc) (tD K c 0 [] Me ge) own σ H Q := by
  obtain ⟨A, F, ρ, d, ρ', S, eg, k⟩ := w
  unfold gLc at eg
  cases e1 : gi ρ with
  | none => rw [e1] at eg; cases eg
  | some q =>
  obtain ⟨ds, ρ1⟩ := q
  rw [e1] at eg
  simp only [Option.bind_some] at eg
  split at eg
  · rename_i hlim
    cases e2 : lcL own gt gc ge ds (wipeE ρ1 own) with
    | none => rw [e2] at eg; cases eg
    | some r =>
    obtain ⟨xs, ρ2⟩ := r
    rw [e2] at eg
    simp only [Option.map_some, Option.some.injEq, Prod.mk.injEq] at eg
    obtain ⟨rfl, rfl⟩ := eg
    refine ⟨A, F, ρ, ds, ρ1, S, e1, fun J A1 F1 H1 S1 N1 its => ?_⟩
    intro Dd hDd
    have hFD : F1 Dd = none := ex_none S1.ex hDd
    have hAD : ∀ i, Dd ∉ A1 i := fun i hi => (S1.cell hi).1 hDd
    have gr0 : Gr F1 H1 F1 (upd H1 Dd (.lst [])) := Gr.newLst S1.ex hDd
    have S1' := S1.grown gr0
    have N1' : Nxt [] A1 F1 H1 A1 F1 (upd H1 Dd (.lst [])) := Nxt.grown gr0 fun i a ha => (S1.cell ha).1
    -- the invariant
    refine ⟨fun i m H' => m = ds.length - i ∧ i ≤ ds.length ∧ ∃ A' F' ρ' acc vs r, StOk K c A' ρ' F' (wipe σ own) H' ∧ Nxt (Mc ++ Me) A1 F1 H1 A' F' H' ∧ H' Dd = some (.lst vs) ∧ F' Dd = none ∧ (∀ j, Dd ∉ A' j) ∧ DpAll K F' vs acc ∧ acc.length ≤ i ∧ lcL own gt gc ge (ds.drop i) ρ' = some r ∧ acc ++ r.1 = xs ∧ r.2 = ρ2,
      ⟨_, rfl, Nat.zero_le _, A1, F1, wipeE ρ1 own, [], [], _, S1'.wiped hown, N1'.mono (fun i hi => by simp at hi), upd_same, hFD, hAD, .nil, Nat.le_refl _, by simpa using e2, rfl, rfl⟩, ?_⟩
    rintro i m H2 ⟨rfl, hil, A2, F2, ρ3, acc, vs, r, S2, N2, hD2, hF2, hA2, hacc, hal, eg2, ex, er⟩
    have it2 := its A2 F2 H2 ρ3 _ (Mc ++ Me) N2 S2 hd
    by_cases hlt : i < ds.length
    · refine .inr ?_
      have hdi : ds[i]? = some ds[i] := List.getElem?_eq_getElem hlt
      obtain ⟨hgo, hy⟩ := it2.1 i _ hdi
      rw [List.drop_eq_getElem_cons hlt] at eg2
      simp only [lcL] at eg2
      cases e3 : gt ρ3 ds[i] with
      | none => rw [e3] at eg2; cases eg2
      | some ρ4 =>
      rw [e3] at eg2
      simp only [Option.bind_some] at eg2
      cases e4 : gc ρ4 with
      | none => rw [e4] at eg2; cases eg2
      | some q =>
      obtain ⟨bb, ρ5⟩ := q
      rw [e4] at eg2
      simp only [Option.bind_some] at eg2
      refine ⟨hgo, fun H' => i + 1 ≤ ds.length ∧ ∃ A' F' ρ' acc vs r, StOk K c A' ρ' F' (wipe σ own) H' ∧ Nxt (Mc ++ Me) A1 F1 H1 A' F' H' ∧ H' Dd = some (.lst vs) ∧ F' Dd = none ∧ (∀ j, Dd ∉ A' j) ∧ DpAll K F' vs acc ∧ acc.length ≤ i + 1 ∧ lcL own gt gc ge (ds.drop (i + 1)) ρ' = some r ∧ acc ++ r.1 = xs ∧ r.2 = ρ2,
        fun H' w => ⟨ds.length - (i + 1), by omega, rfl, w⟩, fun x H3 y => ?_⟩
      obtain ⟨F3, gr, hdp⟩ := hy x H3 y
      have S3 := S2.grown gr
      have N3 : Nxt [] A2 F2 H2 A2 F3 H3 := Nxt.grown gr fun i a ha => (S2.cell ha).1
      have hD3 : H3 Dd = some (.lst vs) := gr.exH _ _ hD2
      have hF3 : F3 Dd = none := (gr.old Dd (by rw [hD2]; simp)).trans hF2
      refine ⟨A2, F3, ρ3, ds[i], ρ4, S3, hdp, e3, fun σ4 S4 o4 => ?_⟩
      have hw := wipe_eq o4 hW
      refine ⟨hw, A2, F3, ρ4, bb, ρ5, S4, e4, fun A5 F5 H5 S5 N5 => ?_⟩
      obtain ⟨hD5, hA5, hF5⟩ := N5.keep Dd _ hD3 hA2
      have hF5 := hF5 hF3
      have hacc5 := Dp.exAll (gr.exF.trans N5.exF) _ _ hacc
      have N25 : Nxt (Mc ++ Me) A1 F1 H1 A5 F5 H5 := ((N2.after0 N3).trans N5).mono fun i hi => (List.mem_append.mp hi).elim id (fun z => List.mem_append_left _ z)
      cases bb with
      | false =>
        rw [if_neg Bool.false_ne_true] at eg2
        show i + 1 ≤ ds.length ∧ _
        refine ⟨hlt, A5, F5, wipeE ρ5 own, acc, vs, r, by rw [← hw]; exact S5.wiped hown, N25, hD5, hF5, hA5, hacc5, by omega, eg2, ex, er⟩
      | true =>
        rw [if_pos rfl] at eg2
        cases e6 : ge ρ5 with
        | none => rw [e6] at eg2; cases eg2
        | some q =>
        obtain ⟨xd, ρ6⟩ := q
        rw [e6] at eg2
        simp only [Option.bind_some] at eg2
        cases e7 : lcL own gt gc ge (ds.drop (i + 1)) (wipeE ρ6 own) with
        | none => rw [e7] at eg2; cases eg2
        | some r2 =>
        rw [e7] at eg2
        cases eg2
        show tD K c 0 [] Me ge σ4 H5 _
        refine ⟨A5, F5, ρ5, xd, ρ6, S5, e6, fun v A6 F6 H6 S6 N6 r6 => ?_⟩
        obtain ⟨hD6, hA6, hF6⟩ := N6.keep Dd _ hD5 hA5
        have hF6 := hF6 hF5
        have hl6 : vs.length ≤ i := by rw [dpAll_len hacc]; exact hal
        refine ⟨vs, hD6, lim_lt (by omega), hlt, ?_⟩
        have hx := r6.froz0
        -- the list grows
        have S7 : StOk K c A6 ρ6 F6 σ4 (upd H6 Dd (.lst (vs ++ [v]))) := by
          refine ⟨fun a o q => ?_, S6.len, fun j d' ej => ?_, S6.no, S6.dis⟩
          · by_cases ha : a = Dd
            · subst ha
              rw [hF6] at q
              cases q
            · rw [upd_ne ha]
              exact S6.ex a o q
          · obtain ⟨w, h1, h2⟩ := S6.own j d' ej
            exact ⟨w, h1, h2.later (Ex.refl _) fun a ha => ⟨upd_ne fun z => hA6 j (by rw [← z]; exact ha), (h2.cells a ha).2⟩⟩
        have N67 : Nxt (Mc ++ Me) A1 F1 H1 A6 F6 H6 := (N25.trans N6).mono fun i hi => (List.mem_append.mp hi).elim id (fun z => List.mem_append_right _ z)
        have N7 : Nxt (Mc ++ Me) A1 F1 H1 A6 F6 (upd H6 Dd (.lst (vs ++ [v]))) := by
          refine ⟨N67.exF, fun a ha => ?_, fun a o ha hn => ?_, fun j hj => ?_, N67.src⟩
          · by_cases hz : a = Dd
            · rw [hz, upd_same]
              simp
            · rw [upd_ne hz]
              exact N67.grow a ha
          · obtain ⟨k1, k2, k3⟩ := N67.keep a o ha hn
            refine ⟨?_, k2, k3⟩
            rw [upd_ne fun z => ?_]
            · exact k1
            · rw [z, hDd] at ha
              cases ha
          · obtain ⟨k1, k2⟩ := N67.own j hj
            refine ⟨k1, fun a ha => ?_⟩
            rw [upd_ne fun z => hAD j (by rw [← z]; exact ha)]
            exact k2 a ha
        refine ⟨A6, F6, wipeE ρ6 own, acc ++ [xd], vs ++ [v], r2, by rw [← hw]; exact S7.wiped hown, N7, upd_same, hF6, hA6, dpAll_append (Dp.exAll N6.exF _ _ hacc5) (.cons hx .nil), by simp; omega, e7, by simpa using ex, er⟩
    · have e5 : i = ds.length := by omega
      subst e5
      rw [List.drop_length] at eg2
      cases eg2
      simp only [List.append_nil] at ex
      subst ex
      have er' : ρ3 = ρ2 := er
      subst er'
      refine .inl ⟨it2.2, ?_⟩
      have lw := wipe_length σ own
      have l1 := S1.len
      have l2 := S2.len
      have hl : ρ1.length = ρ3.length := by omega
      refine k (.ref Dd) A2 F2 H2 ⟨S2.ex, by rw [backE_length]; omega, fun j d' ej => ?_, fun j hj => ?_, S2.dis⟩ (N1.trans N2) ⟨[Dd], Own.lst hD2 hF2 (by simp) (allN_of_dp hacc), fun a ha => ?_⟩
      · by_cases hj : j ∈ own
        · rw [backE_in hl hj] at ej
          obtain ⟨v, h1, h2⟩ := S1.own j d' ej
          rw [hown j hj] at h2
          refine ⟨v, h1, ?_⟩
          rw [hown j hj, dep0_nil S2 (hown j hj)]
          exact Own.froz0 (Dp.ex N2.exF _ _ (Own.zero.mp h2).1)
        · rw [backE_out hj] at ej
          obtain ⟨v, h1, h2⟩ := S2.own j d' ej
          rw [wipe_out hj] at h1
          exact ⟨v, h1, h2⟩
      · by_cases hj' : j ∈ own
        · exact dep0_nil S2 (hown j hj')
        · exact S2.no j fun d' e => hj d' (by rw [backE_out hj']; exact e)
      · have : a = Dd := by simpa using ha
        subst this
        refine .inl ⟨hA2, .inr ?_⟩
        cases q : H a with
        | none => rfl
        | some o => exact absurd hDd (N1.grow a (by rw [q]; simp))
  · cases eg
theorem de_lc {scope : Scope} {own : List (Str × Nat)} {gi : GI} {gt : GG} {gc : GT} {ge : GE} (hc : X.calm = true) (hN : X.N.Nodup) (hi : DI X c tg iter deps Ma gi) (ok : BlkOk X.N X.env.scope scope own)
    (hg : ∀ (s : Shared) (H : Hp) (C : Addr) (cl : List (Str × Addr)) (fp : List Addr), DG (X.blk s H scope (compEnvC scope cl C X.env) fp) c tg W gt) (ht : ∀ (s : Shared) (H : Hp) (C : Addr) (cl : List (Str × Addr)) (fp : List Addr), DTs (X.blk s H scope (compEnvC scope cl C X.env) fp) c ifs Mc gc)
    (he : ∀ (s : Shared) (H : Hp) (C : Addr) (cl : List (Str × Addr)) (fp : List Addr), DE (X.blk s H scope (compEnvC scope cl C X.env) fp) c elt 0 [] Me ge)
    (hown : ∀ i ∈ own.map (·.2), c.dep i = 0 := by decide) (hW : ∀ i ∈ W, i ∈ own.map (·.2) := by decide) (hd : ∀ i ∈ deps, i ∉ Mc ++ Me := by decide) (hs : ∀ x, foldedSetIterable iter X.env x = pure x := by intro _; rfl) :
    DE X c (.ListComp elt [⟨tg, iter, ifs, 0⟩] scope pos) 1 [] (Ma ++ (Mc ++ Me)) (gLc (own.map (·.2)) gi gt gc ge) :=
  PE.imp (pe_lc (g := tG X.K c W gt) (tt := tT X.K c Mc gc) (te := tD X.K c 0 [] Me ge) hc hN hi ok hg ht he hs) fun σ H Q w => lc_read hown hW hd w
/-- name = [..] -/
theorem ds_setLc {scope : Scope} {own : List (Str × Nat)} {gi : GI} {gt : GG} {gc : GT} {ge : GE} {i : Nat} {y : Str} {py spos : Pos} (hc : X.calm = true) (hN : X.N.Nodup) (hi : DI X c tg iter deps Ma gi) (ok : BlkOk X.N X.env.scope scope own)
    (hg : ∀ (s : Shared) (H : Hp) (C : Addr) (cl : List (Str × Addr)) (fp : List Addr), DG (X.blk s H scope (compEnvC scope cl C X.env) fp) c tg W gt) (ht : ∀ (s : Shared) (H : Hp) (C : Addr) (cl : List (Str × Addr)) (fp : List Addr), DTs (X.blk s H scope (compEnvC scope cl C X.env) fp) c ifs Mc gc)
    (he : ∀ (s : Shared) (H : Hp) (C : Addr) (cl : List (Str × Addr)) (fp : List Addr), DE (X.blk s H scope (compEnvC scope cl C X.env) fp) c elt 0 [] Me ge) (hsw : swapsWith (.ListComp elt [⟨tg, iter, ifs, 0⟩] scope pos) (some (.Name y py)) spos.line X.env = pure true)
    (hdi : c.dep i = 1 := by rfl) (hii : i ∉ c.ino := by decide) (hy : X.N[i]? = some y := by rfl) (hyl : X.env.scope.names.lookup y = some .local := by rfl) (hown : ∀ i ∈ own.map (·.2), c.dep i = 0 := by decide) (hW : ∀ i ∈ W, i ∈ own.map (·.2) := by decide) (hd : ∀ i ∈ deps, i ∉ Mc ++ Me := by decide) (hs : ∀ x, foldedSetIterable iter X.env x = pure x := by intro _; rfl) :
    DS X c n (.Assign [.Name y py] (.ListComp elt [⟨tg, iter, ifs, 0⟩] scope pos) spos) (i :: (Ma ++ (Mc ++ Me))) (sSet i (gLc (own.map (·.2)) gi gt gc ge)) := by
  refine ds_setT (te := tD X.K c (c.dep i) [] (Ma ++ (Mc ++ Me)) (gLc (own.map (·.2)) gi gt gc ge)) ?_ hii
  rw [hdi]
  exact PS.imp (ps_setLc (g := tG X.K c W gt) (tt := tT X.K c Mc gc) (te := tD X.K c 0 [] Me ge) hc hN hy hyl hsw hi ok hg ht he hs) fun Ds σ H w => lc_read hown hW hd w
/-- .. where the name's data does not change -/
theorem ds_setLc0 {scope : Scope} {own : List (Str × Nat)} {gi : GI} {gt : GG} {gc : GT} {ge : GE} {i : Nat} {y : Str} {py spos : Pos} (hc : X.calm = true) (hN : X.N.Nodup) (hi : DI X c tg iter deps Ma gi) (ok : BlkOk X.N X.env.scope scope own)
    (hg : ∀ (s : Shared) (H : Hp) (C : Addr) (cl : List (Str × Addr)) (fp : List Addr), DG (X.blk s H scope (compEnvC scope cl C X.env) fp) c tg W gt) (ht : ∀ (s : Shared) (H : Hp) (C : Addr) (cl : List (Str × Addr)) (fp : List Addr), DTs (X.blk s H scope (compEnvC scope cl C X.env) fp) c ifs Mc gc)
    (he : ∀ (s : Shared) (H : Hp) (C : Addr) (cl : List (Str × Addr)) (fp : List Addr), DE (X.blk s H scope (compEnvC scope cl C X.env) fp) c elt 0 [] Me ge) (hsw : swapsWith (.ListComp elt [⟨tg, iter, ifs, 0⟩] scope pos) (some (.Name y py)) spos.line X.env = pure true)
    (hdi : c.dep i = 0 := by rfl) (hii : i ∉ c.ino := by decide) (hy : X.N[i]? = some y := by rfl) (hyl : X.env.scope.names.lookup y = some .local := by rfl) (hown : ∀ i ∈ own.map (·.2), c.dep i = 0 := by decide) (hW : ∀ i ∈ W, i ∈ own.map (·.2) := by decide) (hd : ∀ i ∈ deps, i ∉ Mc ++ Me := by decide) (hs : ∀ x, foldedSetIterable iter X.env x = pure x := by intro _; rfl) :
    DS X c n (.Assign [.Name y py] (.ListComp elt [⟨tg, iter, ifs, 0⟩] scope pos) spos) (i :: (Ma ++ (Mc ++ Me))) (sSet i (gLc (own.map (·.2)) gi gt gc ge)) := by
  refine ds_setT (te := tD X.K c (c.dep i) [] (Ma ++ (Mc ++ Me)) (gLc (own.map (·.2)) gi gt gc ge)) ?_ hii
  rw [hdi]
  refine PS.imp (ps_setLc (g := tG X.K c W gt) (tt := tT X.K c Mc gc) (te := tD X.K c 0 [] Me ge) hc hN hy hyl hsw hi ok hg ht he hs) fun Ds σ H w => lc_read hown hW hd ?_
  have w' : tD X.K c 0 [] (Ma ++ (Mc ++ Me)) (gLc (own.map (·.2)) gi gt gc ge) σ H (fun x H1 => gName i x σ H1 Ds.nx) := w
  obtain ⟨A, F, ρ, d, ρ', S, eg, k⟩ := w'
  refine ⟨A, F, ρ, d, ρ', S, eg, fun v A' F' H' S' N' r => ?_⟩
  obtain ⟨B, ho, hB⟩ := r
  have hB' : ∀ a ∈ B, (∀ i, a ∉ A' i) ∧ ((∃ i, a ∈ A i) ∨ H a = none) := fun a ha => by
    rcases hB a ha with z | ⟨i, hi, _⟩
    · exact z
    · simp at hi
  obtain ⟨S2, N2⟩ := frz_st S' N' ho.cells hB'
  exact k v A' _ H' S2 N2 (Res.of_froz (Own.frozen1 (fun a ha => (ho.cells a ha).2) ho (nd_gLc _ _ _ eg)))
end
end DL

set_option Elab.async false
set_option linter.all false
set_option maxRecDepth 100000
set_option maxHeartbeats 2000000
namespace DL
open PySem L2 PyProof.Rows
/-! ### a list of one's own is changed -/
section
variable {K : Fr} {c : Cfg} {A : Nat → List Addr} {ρ : Env} {F : Hp} {σ : L2.St} {H : Hp}
theorem own_cell (S : StOk K c A ρ F σ H) {i : Nat} {ds : List D} (e : ρ[i]? = some (some (.list ds))) (hd : c.dep i = 1) : ∃ a vs, σ[i]? = some (some (.ref a)) ∧ A i = [a] ∧ H a = some (.lst vs) ∧ F a = none ∧ DpAll K F vs ds := by
  obtain ⟨v, h1, h2⟩ := S.own i _ e
  rw [hd] at h2
  unfold Own at h2
  rcases h2 with ⟨_, _, z⟩ | ⟨p, vs, ds', B', e1, e2, e3, q1, q2, q3, q4⟩ | ⟨_, _, _, _, _, z, _⟩ | ⟨_, _, _, _, _, z, _⟩
  · cases z
  · cases e2
    subst e1
    obtain ⟨w1, w2⟩ := allN_zero q4
    subst w2
    exact ⟨p, vs, h1, e3, q1, q2, w1⟩
  · cases z
  · cases z
theorem cell_put (S : StOk K c A ρ F σ H) {i : Nat} {a : Addr} {vs : List V} {ds : List D} (hA : A i = [a]) (hd : c.dep i = 1) (hs : σ[i]? = some (some (.ref a))) (h : DpAll K F vs ds) :
    StOk K c A (ρ.set i (some (.list ds))) F σ (upd H a (.lst vs)) ∧ Nxt [i] A F H A F (upd H a (.lst vs)) := by
  have ha : a ∈ A i := by rw [hA]; simp
  obtain ⟨c1, c2⟩ := S.cell ha
  have hi : i < ρ.length := by rw [S.len]; exact (List.getElem?_eq_some_iff.mp hs).1
  refine ⟨⟨fun b o q => ?_, by simpa using S.len, fun j d' ej => ?_, fun j hj => ?_, S.dis⟩, ⟨Ex.refl _, fun b hb => ?_, fun b o hb hn => ⟨?_, hn, fun z => z⟩, fun j hj => ⟨rfl, fun b hb => ?_⟩, fun j b hb => .inl ⟨j, hb⟩⟩⟩
  · by_cases hb : b = a
    · rw [hb, c2] at q
      cases q
    · rw [upd_ne hb]
      exact S.ex b o q
  · by_cases hji : j = i
    · subst hji
      rw [List.getElem?_set_self hi] at ej
      cases ej
      refine ⟨.ref a, hs, ?_⟩
      rw [hd, hA]
      exact Own.lst upd_same c2 (by simp) (allN_of_dp h)
    · rw [List.getElem?_set_ne (Ne.symm hji)] at ej
      obtain ⟨w, h1, h2⟩ := S.own j d' ej
      exact ⟨w, h1, h2.later (Ex.refl _) fun b hb => ⟨upd_ne fun z => S.dis j i hji b hb (by rw [z]; exact ha), (h2.cells b hb).2⟩⟩
  · by_cases hji : j = i
    · subst hji
      exact absurd (List.getElem?_set_self hi) (hj _)
    · exact S.no j fun d' e => hj d' (by rw [List.getElem?_set_ne (Ne.symm hji)]; exact e)
  · by_cases hz : b = a
    · rw [hz, upd_same]
      simp
    · rw [upd_ne hz]
      exact hb
  · rw [upd_ne fun z => hn i (by rw [z]; exact ha)]
    exact hb
  · have hji : j ≠ i := fun z => hj (by simp [z])
    exact upd_ne fun z => S.dis j i hji b hb (by rw [z]; exact ha)
end
section
variable {X : Cx} {c : Cfg} {e a b : Expr} {es : List Expr} {n n1 n2 n3 m1 m2 : Nat} {da db Ma Mb M M2 deps : List Nat} {ga gb g : GE} {pos p : Pos} {st : Stmt} {rest : List Stmt} {f h : GS}
def getL (i : Nat) (ρ : Env) : Option (List D) := match ρ[i]? with
  | some (some (.list ds)) => some ds
  | _ => none
theorem getL_some {i : Nat} {ρ : Env} {ds : List D} (h : getL i ρ = some ds) : ρ[i]? = some (some (.list ds)) := by
  unfold getL at h
  split at h
  · rename_i ds' e
    cases h
    exact e
  · cases h
def asI : D → Option Int
  | .int j => some j
  | _ => none
theorem asI_some {d : D} {j : Int} (h : asI d = some j) : d = .int j := by
  cases d <;> simp [asI] at h
  rw [h]
/-- xs.append(e) -/
def gApp (i : Nat) (g : GE) : GE := fun ρ => (getL i ρ).bind fun _ => (g ρ).bind fun p => (getL i p.2).bind fun ds => if ds.length ≤ lim then some (.none, p.2.set i (some (.list (ds ++ [p.1])))) else none
theorem de_app {i : Nat} {apos : Pos} (hv : PE X a (tVar i)) (he : DE X c e 0 [] M g) (hd : c.dep i = 1 := by rfl)
    (hbase : attributeBase a "append" X.env (eval a X.env) = eval a X.env := by rfl)
    (hfew : ((backTo pos (starEach (e :: []) X.env)).all (fun x => !x.1) && (backToKw pos (keywordEach [] X.env)).all (fun x => x.1.isSome)
      && decide ((e :: ([] : List Expr)).length + ([] : List Keyword).length + (if ([] : List Keyword).isEmpty then 0 else 1) < 30)) = true := by rfl)
    (hline : (apos.endLine == pos.line) = true := by rfl) (hs : starEach (e :: []) X.env = (false, eval e X.env) :: starEach [] X.env := by rfl) (hplain : (backTo pos (starEach [] X.env)).any (·.1) = false := by rfl) :
    DE X c (.Call (.Attribute a "append" apos) [e] [] pos) 0 [] (M ++ [i]) (gApp i g) := by
  refine PE.imp (pe_bm PySem.F.plainAttrs_list PySem.F.slot_list_append PySem.F.type_list_append mt_append hv (pa_cons he pa_nil hs) hbase hfew hline hs hplain) fun σ H Q w => ?_
  obtain ⟨A, F, ρ, d, ρ', S, eg, k⟩ := w
  obtain ⟨ds0, e0, eg⟩ := Option.bind_eq_some_iff.mp eg
  obtain ⟨⟨x, ρ1⟩, e1, eg⟩ := Option.bind_eq_some_iff.mp eg
  obtain ⟨ds, e2, eg⟩ := Option.bind_eq_some_iff.mp eg
  have e0 := getL_some e0
  have e2 := getL_some e2
  split at eg
  · rename_i hl
    cases eg
    obtain ⟨a0, vs0, s0, _, h0, _, _⟩ := own_cell S e0 hd
    refine ⟨_, s0, .inl ⟨rfl, vs0, .inl (.inl h0)⟩, A, F, ρ, x, ρ1, S, e1, fun v A1 F1 H1 S1 N1 r1 => ?_⟩
    obtain ⟨a1, vs1, s1, hA1, h1, _, dp1⟩ := own_cell S1 e2 hd
    rw [s0] at s1
    cases s1
    obtain ⟨S2, N2⟩ := cell_put S1 (vs := vs1 ++ [v]) (ds := ds ++ [x]) hA1 hd s0 (dpAll_append dp1 (.cons r1.froz0 .nil))
    exact ⟨a0, vs1, v, rfl, rfl, h1, lim_lt (by rw [dpAll_len dp1]; exact hl), k _ A1 F1 _ S2 (N1.trans N2) (Res.of_froz .non)⟩
  · cases eg
/-- xs.pop() -/
def gPop (i : Nat) : GE := fun ρ => match ρ[i]? with
  | some (some (.list ds)) => (ds[ds.length - 1]?).map fun x => (x, ρ.set i (some (.list ds.dropLast)))
  | _ => none
theorem dpAll_dropLast {K : Fr} {H : Hp} : ∀ {ds : List D} {vs : List V}, DpAll K H vs ds → DpAll K H vs.dropLast ds.dropLast
  | [], _, h => by
    cases h
    exact .nil
  | [d], _, h => by
    cases h with
    | cons h1 h2 =>
      cases h2
      exact .nil
  | d :: d2 :: ds, _, h => by
    cases h with
    | cons h1 h2 =>
      cases h2 with
      | cons h3 h4 => exact .cons h1 (dpAll_dropLast (.cons h3 h4))
theorem dpAll_erase {K : Fr} {H : Hp} : ∀ {ds : List D} {vs : List V} (j : Nat), DpAll K H vs ds → DpAll K H (vs.eraseIdx j) (ds.eraseIdx j)
  | [], _, j, h => by
    cases h
    exact .nil
  | d :: ds, _, 0, h => by
    cases h with
    | cons h1 h2 => exact h2
  | d :: ds, _, j + 1, h => by
    cases h with
    | cons h1 h2 => exact .cons h1 (dpAll_erase j h2)
theorem dpAll_set {K : Fr} {H : Hp} {v : V} {x : D} (hx : Dp K H v x) : ∀ {ds : List D} {vs : List V} (j : Nat), DpAll K H vs ds → DpAll K H (vs.set j v) (ds.set j x)
  | [], _, j, h => by
    cases h
    exact .nil
  | d :: ds, _, 0, h => by
    cases h with
    | cons h1 h2 => exact .cons hx h2
  | d :: ds, _, j + 1, h => by
    cases h with
    | cons h1 h2 => exact .cons h1 (dpAll_set hx j h2)
theorem de_pop {i : Nat} {apos : Pos} (hv : PE X a (tVar i)) (hd : c.dep i = 1 := by rfl) (hbase : attributeBase a "pop" X.env (eval a X.env) = eval a X.env := by rfl) (hline : (apos.endLine == pos.line) = true := by rfl) :
    DE X c (.Call (.Attribute a "pop" apos) [] [] pos) 0 [] [i] (gPop i) := by
  refine PE.imp (pe_bm0 PySem.F.plainAttrs_list PySem.F.slot_list_pop PySem.F.type_list_pop mt_pop hv hbase hline) fun σ H Q w => ?_
  obtain ⟨A, F, ρ, d, ρ', S, eg, k⟩ := w
  unfold gPop at eg
  split at eg
  · rename_i ds e0
    obtain ⟨a0, vs0, s0, hA, h0, _, dp⟩ := own_cell S e0 hd
    cases e1 : ds[ds.length - 1]? with
    | none => rw [e1] at eg; cases eg
    | some x =>
      rw [e1] at eg
      cases eg
      obtain ⟨v, g1, g2⟩ := dpAll_get dp e1
      obtain ⟨S2, N2⟩ := cell_put S (vs := vs0.dropLast) (ds := ds.dropLast) hA hd s0 (dpAll_dropLast dp)
      exact ⟨_, s0, .inl ⟨rfl, vs0, .inl (.inl h0)⟩, a0, vs0, v, rfl, rfl, h0, by rw [dpAll_len dp]; exact g1, k _ A F _ S2 N2 (Res.of_froz g2)⟩
  · cases eg
/-- xs.pop(k) -/
def gPopAt (i : Nat) (g : GE) : GE := fun ρ => (getL i ρ).bind fun _ => (g ρ).bind fun p => (getL i p.2).bind fun ds => (asI p.1).bind fun j =>
  if 0 ≤ j ∧ j < ds.length ∧ ds.length ≤ lim then (ds[j.toNat]?).map fun x => (x, p.2.set i (some (.list (ds.eraseIdx j.toNat)))) else none
theorem de_popAt {i : Nat} {apos : Pos} (hv : PE X a (tVar i)) (he : DE X c e 0 [] M g) (hd : c.dep i = 1 := by rfl)
    (hbase : attributeBase a "pop" X.env (eval a X.env) = eval a X.env := by rfl)
    (hfew : ((backTo pos (starEach (e :: []) X.env)).all (fun x => !x.1) && (backToKw pos (keywordEach [] X.env)).all (fun x => x.1.isSome)
      && decide ((e :: ([] : List Expr)).length + ([] : List Keyword).length + (if ([] : List Keyword).isEmpty then 0 else 1) < 30)) = true := by rfl)
    (hline : (apos.endLine == pos.line) = true := by rfl) (hs : starEach (e :: []) X.env = (false, eval e X.env) :: starEach [] X.env := by rfl) (hplain : (backTo pos (starEach [] X.env)).any (·.1) = false := by rfl) :
    DE X c (.Call (.Attribute a "pop" apos) [e] [] pos) 0 [] (M ++ [i]) (gPopAt i g) := by
  refine PE.imp (pe_bm PySem.F.plainAttrs_list PySem.F.slot_list_pop PySem.F.type_list_pop mt_popAt hv (pa_cons he pa_nil hs) hbase hfew hline hs hplain) fun σ H Q w => ?_
  obtain ⟨A, F, ρ, d, ρ', S, eg, k⟩ := w
  obtain ⟨ds0, e0, eg⟩ := Option.bind_eq_some_iff.mp eg
  obtain ⟨⟨x, ρ1⟩, e1, eg⟩ := Option.bind_eq_some_iff.mp eg
  obtain ⟨ds, e2, eg⟩ := Option.bind_eq_some_iff.mp eg
  obtain ⟨j, ej, eg⟩ := Option.bind_eq_some_iff.mp eg
  have e0 := getL_some e0
  have e2 := getL_some e2
  obtain rfl := asI_some ej
  split at eg
  · rename_i hl
    obtain ⟨hj0, hj1, hlen⟩ := hl
    obtain ⟨y, e3, eg⟩ := Option.map_eq_some_iff.mp eg
    cases eg
    obtain ⟨a0, vs0, s0, _, h0, _, _⟩ := own_cell S e0 hd
    refine ⟨_, s0, .inl ⟨rfl, vs0, .inl (.inl h0)⟩, A, F, ρ, _, ρ1, S, e1, fun v A1 F1 H1 S1 N1 r1 => ?_⟩
    obtain ⟨a1, vs1, s1, hA1, h1, _, dp1⟩ := own_cell S1 e2 hd
    rw [s0] at s1
    cases s1
    have hf := r1.froz0
    cases hf
    obtain ⟨w, g1, g2⟩ := dpAll_get dp1 e3
    obtain ⟨S2, N2⟩ := cell_put S1 (vs := vs1.eraseIdx j.toNat) (ds := ds.eraseIdx j.toNat) hA1 hd s0 (dpAll_erase _ dp1)
    have hl1 := dpAll_len dp1
    have hll : lim = 1000000 := rfl
    have hix : ixN vs1.length j = some j.toNat := by
      unfold ixN
      rw [if_pos hj0, if_pos (by omega)]
    exact ⟨a0, vs1, j, j.toNat, w, rfl, rfl, h1, by omega, by omega, (ixN_seq hix).1, g1, k _ A1 F1 _ S2 (N1.trans N2) (Res.of_froz g2)⟩
  · cases eg
/-- xs[k] = e -/
def sSetIx (i : Nat) (gi ge : GE) : GS := fun ρ => (getL i ρ).bind fun _ => (ge ρ).bind fun p => (gi p.2).bind fun q => (asI q.1).bind fun j => (getL i q.2).bind fun ds => (ixN ds.length j).map fun m => .nx (q.2.set i (some (.list (ds.set m p.1))))
theorem ds_setIx {i : Nat} {ix : Expr} {tpos : Pos} {Mi Me : List Nat} {gi ge : GE} (hv : PE X a (tVar i)) (hi : DE X c ix 0 [] Mi gi) (he : DE X c e 0 [] Me ge) (hd : c.dep i = 1 := by rfl)
    (ha : ∀ v, assign (.Subscript a ix tpos) X.env v = (do
      let ov ← holding [v] (eval a X.env)
      let iv ← holding [v, ov] (eval ix X.env)
      standAt tpos
      holding [v, ov, iv] (setItem ov iv v)
      release [v, ov, iv] []) := by intro _; rfl) (hs : swapsWithSole [.Subscript a ix tpos] e pos.line X.env = pure false := by rfl) (hw : swappedStores [.Subscript a ix tpos] e X.env = pure none := by rfl)
    (h1 : (assignEach [.Subscript a ix tpos] X.env).map (·.2) = [assign (.Subscript a ix tpos) X.env] := by rfl) : DS X c n (.Assign [.Subscript a ix tpos] e pos) ((Me ++ Mi) ++ [i]) (sSetIx i gi ge) := by
  refine PS.imp (ps_asg he (pg_sub hv hi set_list ha) hs hw h1) fun Ds σ H w => ?_
  obtain ⟨A, F, ρ, o, S, eg, k⟩ := w
  obtain ⟨ds0, e0, eg⟩ := Option.bind_eq_some_iff.mp eg
  obtain ⟨⟨x, ρ1⟩, e1, eg⟩ := Option.bind_eq_some_iff.mp eg
  obtain ⟨⟨y, ρ2⟩, e2, eg⟩ := Option.bind_eq_some_iff.mp eg
  obtain ⟨j, ej, eg⟩ := Option.bind_eq_some_iff.mp eg
  obtain ⟨ds, e3, eg⟩ := Option.bind_eq_some_iff.mp eg
  obtain ⟨m, e4, eg⟩ := Option.map_eq_some_iff.mp eg
  have e0 := getL_some e0
  have e3 := getL_some e3
  obtain rfl := asI_some ej
  subst eg
  obtain ⟨a0, vs0, s0, _, h0, _, _⟩ := own_cell S e0 hd
  refine ⟨A, F, ρ, x, ρ1, S, e1, fun v A1 F1 H1 S1 N1 r1 => ?_⟩
  refine ⟨_, s0, A1, F1, ρ1, _, ρ2, S1, e2, fun u A2 F2 H2 S2 N2 r2 => ?_⟩
  have hf := r2.froz0
  cases hf
  obtain ⟨a1, vs1, s1, hA1, h1', _, dp1⟩ := own_cell S2 e3 hd
  rw [s0] at s1
  cases s1
  obtain ⟨S3, N3⟩ := cell_put S2 (vs := vs1.set m v) (ds := ds.set m x) hA1 hd s0 (dpAll_set (Dp.ex N2.exF _ _ r1.froz0) m dp1)
  exact ⟨a0, vs1, j, m, rfl, rfl, h1', by rw [dpAll_len dp1]; exact e4, k σ A2 F2 _ S3 ((N1.trans N2).trans N3) SameB.refl⟩
/-- xs[k] op= e -/
def sAugIx (i : Nat) (gi ge : GE) (sem : D → D → Option D) : GS := fun ρ => (getL i ρ).bind fun _ => (gi ρ).bind fun q => (asI q.1).bind fun j => (getL i q.2).bind fun ds0 => (atI ds0 j).bind fun x => (ge q.2).bind fun p => (sem x p.1).bind fun z => (getL i p.2).bind fun ds => (ixN ds.length j).map fun m => .nx (p.2.set i (some (.list (ds.set m z))))
theorem get_list : PGet X (rIxL X.K) := by
  intro pins s σ H o i ov iv Q I ro ri q
  obtain ⟨p, xs, k, v, rfl, rfl, h1, h2, q⟩ := q
  cases ro
  obtain ⟨t, rfl⟩ := ri
  obtain ⟨its, rv, pl, hz⟩ := I.list h1
  obtain ⟨j, g1, g2, g3, g4, g5⟩ := atI_get h2
  obtain ⟨u, g6, g7⟩ := rv.get g2
  have hl := rv.length
  have hn := line63
  have fin : EP X pins σ Q u s := ⟨v, H, I, g7, q⟩
  by_cases h0 : 0 ≤ k
  · have hj : k.toNat = j := by
      rw [seqIndex_of h0 g5] at g1
      exact Option.some.inj g1
    exact wpAny_getItem_list pl.isList h0 (by omega) (by rw [hj]; simpa using g6) fin
  · have hj : (k + (its.toArray.size : Int)).toNat = j := by
      rw [seqIndex_neg (by omega) g4] at g1
      rw [List.size_toArray, ← hl]
      exact Option.some.inj g1
    exact thn (wpAny_getItem_list_neg (Q := fun r s' => r = u ∧ EP X pins σ Q r s') pl.isList (by omega) (by rw [List.size_toArray] <;> omega) (by omega) (by rw [hj]; simpa using g6) ⟨rfl, fin⟩) fun _ _ z => z.2
theorem ds_augIx {i : Nat} {ix : Expr} {tpos : Pos} {Mi Me : List Nat} {gi ge : GE} {op : Operator} {sem : D → D → Option D} (ho : OpD X (inplaceOp op) 0 0 0 sem) (hv : PE X a (tVar i)) (hi : DE X c ix 0 [] Mi gi) (he : DE X c e 0 [] Me ge) (hd : c.dep i = 1 := by rfl)
    (ha : ∀ ov iv new, augStore ix ov iv new = (do holding [new, ov, iv] (setItem ov iv new); release [new, ov, iv] []; pure .next) := by intros; rfl) : DS X c n (.AugAssign (.Subscript a ix tpos) op e pos) ((Mi ++ Me) ++ [i]) (sAugIx i gi ge sem) := by
  obtain ⟨r, hr, qo⟩ := ho.ex
  refine PS.imp (ps_augS hv hi get_list he (fun pins s σ H x y v u Q I rx ry w => hr pins s σ H x y v u Q I rx ry w) set_list ha) fun Ds σ H w => ?_
  obtain ⟨A, F, ρ, o, S, eg, k⟩ := w
  obtain ⟨ds0, e0, eg⟩ := Option.bind_eq_some_iff.mp eg
  obtain ⟨⟨y, ρ1⟩, e1, eg⟩ := Option.bind_eq_some_iff.mp eg
  obtain ⟨j, ej, eg⟩ := Option.bind_eq_some_iff.mp eg
  obtain ⟨ds1, e2, eg⟩ := Option.bind_eq_some_iff.mp eg
  obtain ⟨x, ex, eg⟩ := Option.bind_eq_some_iff.mp eg
  obtain ⟨⟨u, ρ2⟩, e3, eg⟩ := Option.bind_eq_some_iff.mp eg
  obtain ⟨z, ez, eg⟩ := Option.bind_eq_some_iff.mp eg
  obtain ⟨ds, e4, eg⟩ := Option.bind_eq_some_iff.mp eg
  obtain ⟨m, e5, eg⟩ := Option.map_eq_some_iff.mp eg
  have e0 := getL_some e0
  have e2 := getL_some e2
  have e4 := getL_some e4
  subst eg
  obtain rfl := asI_some ej
  obtain ⟨a0, vs0, s0, _, h0, _, _⟩ := own_cell S e0 hd
  refine ⟨_, s0, A, F, ρ, _, ρ1, S, e1, fun v A1 F1 H1 S1 N1 r1 => ?_⟩
  have hf := r1.froz0
  cases hf
  obtain ⟨a1, vs1, s1, hA1, h1, _, dp1⟩ := own_cell S1 e2 hd
  rw [s0] at s1
  cases s1
  obtain ⟨vx, gx, dx⟩ := dpAll_at dp1 ex
  refine ⟨a0, vs1, j, vx, rfl, rfl, .inl (.inl h1), gx, A1, F1, ρ1, u, ρ2, S1, e3, fun w A2 F2 H2 S2 N2 r2 => ?_⟩
  refine qo F2 H2 vx w x u z [] [] S2.ex (.inl ⟨Dp.ex N2.exF _ _ dx, rfl⟩) (.inl ⟨r2.froz0, rfl⟩) ez _ (fin_op (n3 := 0) S2 (N1.trans N2) fun v' A' F' H' S' N' r' => ?_)
  obtain ⟨a1, vs2, s1, hA2, h2, _, dp2⟩ := own_cell S' e4 hd
  rw [s0] at s1
  cases s1
  obtain ⟨S3, N3⟩ := cell_put S' (vs := vs2.set m v') (ds := ds.set m z) hA2 hd s0 (dpAll_set r'.froz0 m dp2)
  exact ⟨a0, vs2, j, m, rfl, rfl, h2, by rw [dpAll_len dp2]; exact e5, k σ A' F' _ S3 (N'.trans N3) SameB.refl⟩
end
/-! ### defs -/
def finals (ino : List Nat) (ρ : Env) : Nat → List D → Option (List D)
  | _, [] => some []
  | k, d :: ds => (if k ∈ ino then (match ρ[k]? with | some (some d') => some d' | _ => none) else some d).bind fun d' => (finals ino ρ (k + 1) ds).map (d' :: ·)
def runFn (ino : List Nat) (nN : Nat) (gf : GS) (ds : List D) : Option (D × List D) := (gf (ds.map some ++ List.replicate (nN - ds.length) none)).bind fun
  | .rt d ρ' => (finals ino ρ' 0 ds).map fun fin => (d, fin)
  | .nx ρ' => (finals ino ρ' 0 ds).map fun fin => (.none, fin)
  | _ => none
theorem finals_get {ino : List Nat} {ρ : Env} : ∀ {ds fin : List D} {k : Nat}, finals ino ρ k ds = some fin → fin.length = ds.length ∧ ∀ i d, fin[i]? = some d → (k + i ∈ ino ∧ ρ[k + i]? = some (some d)) ∨ (k + i ∉ ino ∧ ds[i]? = some d)
  | [], fin, k, h => by
    cases h
    exact ⟨rfl, fun i d e => by simp at e⟩
  | d0 :: ds, fin, k, h => by
    simp only [finals] at h
    obtain ⟨d', h1, h2⟩ := Option.bind_eq_some_iff.mp h
    obtain ⟨fin', h3, h4⟩ := Option.map_eq_some_iff.mp h2
    subst h4
    obtain ⟨l, ih⟩ := finals_get h3
    refine ⟨by simp [l], fun i d e => ?_⟩
    cases i with
    | zero =>
      simp at e
      subst e
      split at h1
      · rename_i hk
        refine .inl ⟨hk, ?_⟩
        split at h1
        · rename_i d'' e2
          cases h1
          exact e2
        · cases h1
      · rename_i hk
        cases h1
        exact .inr ⟨hk, by simp⟩
    | succ i =>
      have := ih i d (by simpa using e)
      have e3 : k + 1 + i = k + (i + 1) := by omega
      rw [e3] at this
      simpa using this
/-- a def's promise: ds the data of its arguments; m: what it gives, and what its arguments hold behind it -/
def spD (K : Fr) (c : Cfg) (np n : Nat) (m : List D → Option (D × List D)) : Sp := fun vs H Q _ => vs.length = np ∧ ∃ A F ds r fin, ds.length = np ∧ StOk K c A (ds.map some) F (vs.map some) H ∧ m ds = some (r, fin) ∧
  ∀ v A' F' H' Mx, StOk K c A' (fin.map some) F' (vs.map some) H' → Nxt Mx A F H A' F' H' → Res K A H [] n A' F' H' v r → Q v H'
theorem start_get {N : List Str} {vs : List V} {i : Nat} (h : i < vs.length) : (L2.start N vs)[i]? = some (some vs[i]) := by
  unfold L2.start
  rw [List.getElem?_append_left (by simpa using h)]
  simp [h]
theorem fn_end {K : Fr} {c : Cfg} {np n : Nat} {N : List Str} {vs : List V} {ds fin : List D} {A A' : Nat → List Addr} {F F' H H' : Hp} {ρ' : Env} {σ' : L2.St} {M : List Nat} {r : D} {v : V} {Q : VK} (hv : vs.length = np) (hds : ds.length = np) (hino : ∀ i ∈ c.ino, i < np) (hdep : ∀ i, i < np → i ∉ c.ino → c.dep i = 0)
    (S0 : StOk K c A (ds.map some) F (vs.map some) H) (ef : finals c.ino ρ' 0 ds = some fin) (S' : StOk K c A' ρ' F' σ' H') (N' : Nxt M A F H A' F' H') (s' : SameB c (L2.start N vs) σ') (R : Res K A H [] n A' F' H' v r)
    (k : ∀ v A' F' H' Mx, StOk K c A' (fin.map some) F' (vs.map some) H' → Nxt Mx A F H A' F' H' → Res K A H [] n A' F' H' v r → Q v H') : Q v H' := by
  obtain ⟨lf, gf⟩ := finals_get ef
  have sub : ∀ i a, a ∈ (if i ∈ c.ino then A' i else []) → i ∈ c.ino ∧ a ∈ A' i := fun i a h => by
    split at h
    · exact ⟨by assumption, h⟩
    · simp at h
  refine k v (fun i => if i ∈ c.ino then A' i else []) F' H' (List.range np) ⟨S'.ex, by simp [lf, hds, hv], fun i d e => ?_, fun i hi => ?_, fun i j hij a ha hb => S'.dis i j hij a (sub i a ha).2 (sub j a hb).2⟩
    ⟨N'.exF, N'.grow, fun a o ha hn => ?_, fun i hi => ?_, fun i a ha => N'.src i a (sub i a ha).2⟩ ?_
  · have e' : fin[i]? = some d := by
      rw [List.getElem?_map] at e
      cases q : fin[i]? with
      | none => rw [q] at e; cases e
      | some d' => rw [q] at e; cases e; rfl
    have hil : i < np := by
      have := (List.getElem?_eq_some_iff.mp e').1
      omega
    refine ⟨vs[i], by simp [hv, hil], ?_⟩
    have := gf i d e'
    rw [Nat.zero_add] at this
    rcases this with ⟨h1, h2⟩ | ⟨h1, h2⟩
    · obtain ⟨w, g1, g2⟩ := S'.own i d h2
      rw [s'.2 i h1, start_get (by omega)] at g1
      cases g1
      simp only [h1, if_true]
      exact g2
    · obtain ⟨w, g1, g2⟩ := S0.own i d (by rw [List.getElem?_map, h2]; rfl)
      rw [List.getElem?_map, List.getElem?_eq_getElem (by omega)] at g1
      cases g1
      simp only [h1, if_false]
      rw [hdep i hil h1] at g2 ⊢
      exact Own.froz0 (Dp.ex N'.exF _ _ (Own.zero.mp g2).1)
  · by_cases h1 : i ∈ c.ino
    · have := hino i h1
      exact absurd (show (fin.map some)[i]? = some (some fin[i]) by simp [lf, hds, this]) (hi _)
    · simp [h1]
  · obtain ⟨k1, k2, k3⟩ := N'.keep a o ha hn
    exact ⟨k1, fun i z => k2 i (sub i a z).2, k3⟩
  · have hnp : ¬ i < np := by simpa using hi
    have h1 : i ∉ c.ino := fun z => hnp (hino i z)
    have h2 : A i = [] := S0.no i fun d e => by
      rw [List.getElem?_eq_none (by simp [hds]; omega)] at e
      cases e
    simp [h1, h2]
  · obtain ⟨B, ho, hB⟩ := R
    refine ⟨B, ho, fun a ha => ?_⟩
    rcases hB a ha with ⟨z1, z2⟩ | ⟨i, hi, _⟩
    · exact .inl ⟨fun i z => z1 i (sub i a z).2, z2⟩
    · simp at hi
theorem dl_fn {P : Program} {w : World} {K : Fr} {mg : Str → Option Value} {base : Heap} {x qual : Str} {st : Stmt} {f : Addr} {fd : FuncData} {N ps : List Str} {k : Nat} {c : Cfg} {n : Nat} {M : List Nat} {gf : GS} (F : Fun K x qual st f fd) (S : FnScope N ps (defScope st)) (hN : ps.length ≤ N.length)
    (hino : ∀ i ∈ c.ino, i < ps.length) (hdep : ∀ i, i < ps.length → i ∉ c.ino → c.dep i = 0)
    (hbody : ∀ (cdv : Value) (A : Around) (outer : List PySem.Env) (s : Shared) (H : Hp) (E : XK), Room k (A.deeper (envOfC qual (defScope st) s.heap.objs.size f cdv)) →
      DSs (cxOf CX0 P w K mg base N qual (defScope st) f cdv A outer s H E).nox c n (defBody st) M gf) : FnOk P w K mg base CX0 (k + 1) f fd ps (spD K c ps.length n (runFn c.ino N.length gf)) := by
  refine F.ok S (fun vs H Q E h => h.1) fun cdv A outer s H vs Q E hr h => ⟨_, hbody cdv A outer s H E hr, ?_⟩
  obtain ⟨hv, A0, F0, ds, r, fin, hds, S0, em, kk⟩ := h
  obtain ⟨o, e1, e2⟩ := Option.bind_eq_some_iff.mp em
  have St : StOk K c A0 (ds.map some ++ List.replicate (N.length - ds.length) none) F0 (L2.start N vs) H := by
    refine ⟨S0.ex, by simp [L2.start, hds, hv], fun i d e => ?_, fun i hi => ?_, S0.dis⟩
    · by_cases hi : i < ps.length
      · rw [List.getElem?_append_left (by simp [hds, hi])] at e
        obtain ⟨v, g1, g2⟩ := S0.own i d e
        rw [List.getElem?_map, List.getElem?_eq_getElem (by omega)] at g1
        cases g1
        exact ⟨_, start_get (by omega), g2⟩
      · rw [List.getElem?_append_right (by simp [hds]; omega)] at e
        rw [List.getElem?_replicate] at e
        split at e <;> cases e
    · refine S0.no i fun d e => hi d ?_
      have hil : i < (ds.map some).length := (List.getElem?_eq_some_iff.mp e).1
      rw [List.getElem?_append_left hil]
      exact e
  refine ⟨A0, F0, _, o, St, e1, ?_⟩
  cases o with
  | nx ρ' =>
    obtain ⟨fin', ef, e3⟩ := Option.map_eq_some_iff.mp e2
    cases e3
    exact fun σ' A' F' H' S' N' s' => fn_end hv hds hino hdep S0 ef S' N' s' (Res.of_flat .non rfl) kk
  | rt d ρ' =>
    obtain ⟨fin', ef, e3⟩ := Option.map_eq_some_iff.mp e2
    cases e3
    exact fun v σ' A' F' H' S' N' s' R => fn_end hv hds hino hdep S0 ef S' N' s' R kk
  | bk ρ' => cases e2
  | ct ρ' => cases e2
/-! ### a call of a def of one's own -/
def fillB (ρ : Env) : List (Option Nat) → List D → Option (List D)
  | [], [] => some []
  | none :: bs, d :: ds => (fillB ρ bs ds).map (d :: ·)
  | some j :: bs, _ :: ds => match ρ[j]? with
    | some (some d) => (fillB ρ bs ds).map (d :: ·)
    | _ => none
  | _, _ => none
def putB (ρ : Env) : List (Option Nat) → List D → Env
  | none :: bs, _ :: ds => putB ρ bs ds
  | some j :: bs, d :: ds => (putB ρ bs ds).set j (some d)
  | _, _ => ρ
def gCall (bs : List (Option Nat)) (m : List D → Option (D × List D)) (g : GA) : GE := fun ρ => (g ρ).bind fun p => (fillB p.2 bs p.1).bind fun ds => (m ds).map fun r => (r.1, putB p.2 bs r.2)
/-- no slot is handed over -/
theorem fillB_none {ρ : Env} : ∀ {bs : List (Option Nat)} {ds : List D}, bs.all (·.isNone) = true → bs.length = ds.length → fillB ρ bs ds = some ds
  | [], [], _, _ => rfl
  | none :: bs, d :: ds, h, l => by
    simp only [fillB]
    rw [fillB_none (by simpa using h) (by simpa using l)]
    rfl
  | some _ :: _, _, h, _ => by simp at h
  | [], _ :: _, _, l => by simp at l
  | none :: _, [], _, l => by simp at l
theorem putB_none {ρ : Env} : ∀ {bs : List (Option Nat)} {ds : List D}, bs.all (·.isNone) = true → putB ρ bs ds = ρ
  | [], ds, _ => by cases ds <;> rfl
  | none :: bs, [], h => rfl
  | none :: bs, d :: ds, h => by
    simp only [putB]
    exact putB_none (by simpa using h)
  | some _ :: _, _, h => by simp at h
theorem fillB_get {ρ : Env} : ∀ {bs : List (Option Nat)} {ds fs : List D}, fillB ρ bs ds = some fs → fs.length = bs.length ∧ ∀ (k : Nat) (d : D), fs[k]? = some d → (bs[k]? = some none ∧ ds[k]? = some d) ∨ ∃ j, bs[k]? = some (some j) ∧ ρ[j]? = some (some d)
  | [], [], fs, h => by
    cases h
    exact ⟨rfl, fun k d e => by simp at e⟩
  | none :: bs, d0 :: ds, fs, h => by
    simp only [fillB] at h
    obtain ⟨fs', h1, rfl⟩ := Option.map_eq_some_iff.mp h
    obtain ⟨l, ih⟩ := fillB_get h1
    refine ⟨by simp [l], fun k d e => ?_⟩
    cases k with
    | zero => exact .inl ⟨by simp, by simpa using e⟩
    | succ k => simpa using ih k d (by simpa using e)
  | some j :: bs, d0 :: ds, fs, h => by
    simp only [fillB] at h
    split at h
    · rename_i d' ed
      obtain ⟨fs', h1, rfl⟩ := Option.map_eq_some_iff.mp h
      obtain ⟨l, ih⟩ := fillB_get h1
      refine ⟨by simp [l], fun k d e => ?_⟩
      cases k with
      | zero =>
        simp at e
        subst e
        exact .inr ⟨j, by simp, ed⟩
      | succ k => simpa using ih k d (by simpa using e)
    · cases h
  | [], _ :: _, _, h => by cases h
  | none :: _, [], _, h => by cases h
  | some _ :: _, [], _, h => by cases h
theorem argsOk_get {K : Fr} {F : Hp} {σ : L2.St} : ∀ {bs : List (Option Nat)} {vs : List V} {ds : List D}, ArgsOk K F σ bs vs ds → vs.length = bs.length ∧ ds.length = bs.length ∧
    (∀ k : Nat, bs[k]? = some none → ∀ d, ds[k]? = some d → ∃ v, vs[k]? = some v ∧ Dp K F v d) ∧ ∀ k j : Nat, bs[k]? = some (some j) → ∃ v, vs[k]? = some v ∧ σ[j]? = some (some v)
  | [], [], [], _ => ⟨rfl, rfl, fun k h => by simp at h, fun k j h => by simp at h⟩
  | none :: bs, v :: vs, d :: ds, h => by
    obtain ⟨l1, l2, h1, h2⟩ := argsOk_get h.2
    refine ⟨by simp [l1], by simp [l2], fun k e d' e' => ?_, fun k j e => ?_⟩
    · cases k with
      | zero =>
        simp at e'
        subst e'
        exact ⟨v, by simp, h.1⟩
      | succ k => simpa using h1 k (by simpa using e) d' (by simpa using e')
    · cases k with
      | zero => simp at e
      | succ k => simpa using h2 k j (by simpa using e)
  | some j0 :: bs, v :: vs, d :: ds, h => by
    obtain ⟨l1, l2, h1, h2⟩ := argsOk_get h.2
    refine ⟨by simp [l1], by simp [l2], fun k e d' e' => ?_, fun k j e => ?_⟩
    · cases k with
      | zero => simp at e
      | succ k => simpa using h1 k (by simpa using e) d' (by simpa using e')
    · cases k with
      | zero =>
        simp at e
        subst e
        exact ⟨v, by simp, h.1⟩
      | succ k => simpa using h2 k j (by simpa using e)
  | [], [], _ :: _, h => h.elim
  | [], _ :: _, _, h => h.elim
  | none :: _, [], _, h => h.elim
  | none :: _, _ :: _, [], h => h.elim
  | some _ :: _, [], _, h => h.elim
  | some _ :: _, _ :: _, [], h => h.elim
theorem putB_length {ρ : Env} : ∀ {bs : List (Option Nat)} {ds : List D}, (putB ρ bs ds).length = ρ.length
  | [], ds => by cases ds <;> rfl
  | none :: bs, [] => rfl
  | some _ :: bs, [] => rfl
  | none :: bs, d :: ds => by
    simp only [putB]
    exact putB_length
  | some j :: bs, d :: ds => by
    simp only [putB, List.length_set]
    exact putB_length
/-- the slots that are handed over -/
def bsL (bs : List (Option Nat)) : List Nat := bs.filterMap id
theorem mem_bsL {bs : List (Option Nat)} {k j : Nat} (h : bs[k]? = some (some j)) : j ∈ bsL bs := List.mem_filterMap.mpr ⟨some j, List.mem_of_getElem? h, rfl⟩
theorem of_bsL {bs : List (Option Nat)} {j : Nat} (h : j ∈ bsL bs) : ∃ k : Nat, bs[k]? = some (some j) := by
  obtain ⟨o, h1, h2⟩ := List.mem_filterMap.mp h
  cases o with
  | none => cases h2
  | some j' =>
    cases h2
    obtain ⟨k, hk⟩ := List.getElem?_of_mem h1
    exact ⟨k, hk⟩
theorem putB_out {ρ : Env} {j : Nat} : ∀ {bs : List (Option Nat)} {ds : List D}, j ∉ bsL bs → (putB ρ bs ds)[j]? = ρ[j]?
  | [], ds, _ => by cases ds <;> rfl
  | none :: bs, [], _ => rfl
  | some _ :: bs, [], _ => rfl
  | none :: bs, d :: ds, h => by
    simp only [putB]
    exact putB_out (by simpa [bsL] using h)
  | some j' :: bs, d :: ds, h => by
    simp only [putB]
    have h1 : j' ≠ j := fun e => h (by simp [bsL, e])
    rw [List.getElem?_set_ne h1]
    exact putB_out fun z => h (by simp only [bsL, List.filterMap_cons, id] at z ⊢; exact List.mem_cons_of_mem _ z)
theorem putB_in {ρ : Env} {j : Nat} : ∀ {bs : List (Option Nat)} {ds : List D} {k : Nat}, (bsL bs).Nodup → bs.length = ds.length → j < ρ.length → bs[k]? = some (some j) → ∃ d, ds[k]? = some d ∧ (putB ρ bs ds)[j]? = some (some d)
  | [], _, k, _, _, _, h => by simp at h
  | none :: bs, [], k, _, l, _, _ => by simp at l
  | some _ :: bs, [], k, _, l, _, _ => by simp at l
  | none :: bs, d :: ds, k, nd, l, hj, h => by
    cases k with
    | zero => simp at h
    | succ k =>
      simp only [putB]
      obtain ⟨d', g1, g2⟩ := putB_in (bs := bs) (ds := ds) (k := k) (by simpa [bsL] using nd) (by simpa using l) hj (by simpa using h)
      exact ⟨d', by simpa using g1, g2⟩
  | some j' :: bs, d :: ds, k, nd, l, hj, h => by
    simp only [putB]
    have nd' : j' ∉ bsL bs ∧ (bsL bs).Nodup := by simpa [bsL] using nd
    cases k with
    | zero =>
      simp at h
      subst h
      refine ⟨d, by simp, ?_⟩
      rw [List.getElem?_set_self (by rw [putB_length]; exact hj)]
    | succ k =>
      have h' : bs[k]? = some (some j) := by simpa using h
      obtain ⟨d', g1, g2⟩ := putB_in (bs := bs) (ds := ds) (k := k) nd'.2 (by simpa using l) hj h'
      refine ⟨d', by simpa using g1, ?_⟩
      rw [List.getElem?_set_ne fun e => nd'.1 (by rw [e]; exact mem_bsL h')]
      exact g2
theorem bs_inj : ∀ {bs : List (Option Nat)} {k l j : Nat}, (bsL bs).Nodup → bs[k]? = some (some j) → bs[l]? = some (some j) → k = l
  | [], k, l, j, _, h, _ => by simp at h
  | none :: bs, k, l, j, nd, h, h' => by
    cases k with
    | zero => simp at h
    | succ k =>
      cases l with
      | zero => simp at h'
      | succ l => exact congrArg Nat.succ (bs_inj (bs := bs) (k := k) (l := l) (j := j) (by simpa [bsL] using nd) (by simpa using h) (by simpa using h'))
  | some j' :: bs, k, l, j, nd, h, h' => by
    have nd' : j' ∉ bsL bs ∧ (bsL bs).Nodup := by simpa [bsL] using nd
    cases k with
    | zero =>
      cases l with
      | zero => rfl
      | succ l =>
        simp at h
        subst h
        exact absurd (mem_bsL (by simpa using h')) nd'.1
    | succ k =>
      cases l with
      | zero =>
        simp at h'
        subst h'
        exact absurd (mem_bsL (by simpa using h)) nd'.1
      | succ l => exact congrArg Nat.succ (bs_inj (bs := bs) (k := k) (l := l) (j := j) nd'.2 (by simpa using h) (by simpa using h'))
/-- the parameters' depths are those of what is handed over -/
def okB (c c0 : Cfg) : Nat → List (Option Nat) → Bool
  | _, [] => true
  | k, none :: bs => (c0.dep k == 0) && okB c c0 (k + 1) bs
  | k, some j :: bs => (c0.dep k == c.dep j) && okB c c0 (k + 1) bs
theorem okB_get {c c0 : Cfg} : ∀ {bs : List (Option Nat)} {k : Nat}, okB c c0 k bs = true → (∀ i : Nat, bs[i]? = some none → c0.dep (k + i) = 0) ∧ ∀ i j : Nat, bs[i]? = some (some j) → c0.dep (k + i) = c.dep j
  | [], k, _ => ⟨fun i h => by simp at h, fun i j h => by simp at h⟩
  | none :: bs, k, h => by
    simp only [okB, Bool.and_eq_true, beq_iff_eq] at h
    obtain ⟨h1, h2⟩ := okB_get h.2
    refine ⟨fun i e => ?_, fun i j e => ?_⟩
    · cases i with
      | zero => exact h.1
      | succ i =>
        have h3 := h1 i (by simpa using e)
        have h4 : k + (i + 1) = k + 1 + i := by omega
        rw [h4]
        exact h3
    · cases i with
      | zero => simp at e
      | succ i =>
        have h3 := h2 i j (by simpa using e)
        have h4 : k + (i + 1) = k + 1 + i := by omega
        rw [h4]
        exact h3
  | some j0 :: bs, k, h => by
    simp only [okB, Bool.and_eq_true, beq_iff_eq] at h
    obtain ⟨h1, h2⟩ := okB_get h.2
    refine ⟨fun i e => ?_, fun i j e => ?_⟩
    · cases i with
      | zero => simp at e
      | succ i =>
        have h3 := h1 i (by simpa using e)
        have h4 : k + (i + 1) = k + 1 + i := by omega
        rw [h4]
        exact h3
    · cases i with
      | zero =>
        simp at e
        subst e
        exact h.1
      | succ i =>
        have h3 := h2 i j (by simpa using e)
        have h4 : k + (i + 1) = k + 1 + i := by omega
        rw [h4]
        exact h3
theorem call_read {K : Fr} {c c0 : Cfg} {np n : Nat} {m : List D → Option (D × List D)} {bs : List (Option Nat)} {A A1 : Nat → List Addr} {ρ1 : Env} {F H F1 H1 : Hp} {σ : L2.St} {M : List Nat} {vs : List V} {ds fs fin : List D} {r : D} {Q : VK} {E : XK}
    (ok : okB c c0 0 bs = true) (nd : (bsL bs).Nodup) (hnp : bs.length = np) (S1 : StOk K c A1 ρ1 F1 σ H1) (N1 : Nxt M A F H A1 F1 H1) (ha : ArgsOk K F1 σ bs vs ds) (hf : fillB ρ1 bs ds = some fs) (em : m fs = some (r, fin))
    (k : ∀ v A' F' H', StOk K c A' (putB ρ1 bs fin) F' σ H' → Nxt (M ++ bsL bs) A F H A' F' H' → Res K A H [] n A' F' H' v r → Q v H') : spD K c0 np n m vs H1 Q E := by
  obtain ⟨l1, l2, a1, a2⟩ := argsOk_get ha
  obtain ⟨lf, gf⟩ := fillB_get hf
  obtain ⟨o1, o2⟩ := okB_get ok
  have A0 : ∀ i : Nat, List Addr := fun i => []
  generalize hB : (fun (i : Nat) => match bs[i]? with | some (some j) => A1 j | _ => ([] : List Addr)) = B0
  have B0s : ∀ i j : Nat, bs[i]? = some (some j) → B0 i = A1 j := fun i j e => by rw [← hB]; simp only [e]
  have B0n : ∀ i : Nat, (∀ j : Nat, bs[i]? ≠ some (some j)) → B0 i = [] := fun i e => by
    rw [← hB]
    show (match bs[i]? with | some (some j) => A1 j | _ => ([] : List Addr)) = []
    split
    · rename_i j ej
      exact absurd ej (e j)
    · rfl
  have B0m : ∀ (i : Nat) (a : Addr), a ∈ B0 i → ∃ j : Nat, bs[i]? = some (some j) ∧ a ∈ A1 j := fun i a h => by
    by_cases e : ∃ j, bs[i]? = some (some j)
    · obtain ⟨j, e⟩ := e
      exact ⟨j, e, by rw [← B0s i j e]; exact h⟩
    · rw [B0n i fun j z => e ⟨j, z⟩] at h
      simp at h
  have S0 : StOk K c0 B0 (fs.map some) F1 (vs.map some) H1 := by
    refine ⟨S1.ex, by simp [lf, l1], fun i d e => ?_, fun i hi => ?_, fun i l hil a h1 h2 => ?_⟩
    · have e' : fs[i]? = some d := by
        rw [List.getElem?_map] at e
        cases q : fs[i]? with
        | none => rw [q] at e; cases e
        | some d' => rw [q] at e; cases e; rfl
      rcases gf i d e' with ⟨g1, g2⟩ | ⟨j, g1, g2⟩
      · obtain ⟨v, h1, h2⟩ := a1 i g1 d g2
        have q0 := o1 i g1
        rw [Nat.zero_add] at q0
        rw [q0, B0n i fun j z => by rw [g1] at z; cases z]
        exact ⟨v, by simp [h1], Own.froz0 h2⟩
      · obtain ⟨v, h1, h2⟩ := a2 i j g1
        obtain ⟨w, h3, h4⟩ := S1.own j d g2
        rw [h2] at h3
        cases h3
        have q0 := o2 i j g1
        rw [Nat.zero_add] at q0
        rw [q0, B0s i j g1]
        exact ⟨v, by simp [h1], h4⟩
    · by_cases hb : ∃ j, bs[i]? = some (some j)
      · obtain ⟨j, hj⟩ := hb
        have hil : i < fs.length := by
          rw [lf]
          exact (List.getElem?_eq_some_iff.mp hj).1
        exact absurd (show (fs.map some)[i]? = some (some fs[i]) by simp [hil]) (hi _)
      · exact B0n i fun j z => hb ⟨j, z⟩
    · obtain ⟨j, e1, m1⟩ := B0m i a h1
      obtain ⟨j2, e2, m2⟩ := B0m l a h2
      have hj : j ≠ j2 := fun z => hil (bs_inj nd e1 (by rw [z]; exact e2))
      exact S1.dis j j2 hj a m1 m2
  refine ⟨l1.trans hnp, B0, F1, fs, r, fin, lf.trans hnp, S0, em, fun v A' F' H' Mx S' N' R => ?_⟩
  have lfin : fin.length = bs.length := by
    have := S'.len
    simpa [l1] using this
  -- the caller's owners behind the call
  generalize hA2 : (fun j => match bs.findIdx? (· == some j) with | some i => A' i | none => A1 j) = A2
  have fi : ∀ i j : Nat, bs[i]? = some (some j) → A2 j = A' i := fun i j e => by
    rw [← hA2]
    simp only []
    cases q : bs.findIdx? (· == some j) with
    | none =>
      have := List.findIdx?_eq_none_iff.mp q (some j) (List.mem_of_getElem? e)
      simp at this
    | some l =>
      obtain ⟨hl, h1, _⟩ := List.findIdx?_eq_some_iff_getElem.mp q
      have e2 : bs[l]? = some (some j) := by
        rw [List.getElem?_eq_getElem hl]
        simpa using h1
      simp only []
      rw [bs_inj nd e e2]
  have fo : ∀ j, j ∉ bsL bs → A2 j = A1 j := fun j e => by
    rw [← hA2]
    simp only []
    cases q : bs.findIdx? (· == some j) with
    | none => rfl
    | some l =>
      obtain ⟨hl, h1, _⟩ := List.findIdx?_eq_some_iff_getElem.mp q
      have e2 : bs[l]? = some (some j) := by
        rw [List.getElem?_eq_getElem hl]
        simpa using h1
      exact absurd (mem_bsL e2) e
  have kept : ∀ j, j ∉ bsL bs → ∀ a ∈ A1 j, H' a = H1 a ∧ F' a = none ∧ ∀ i, a ∉ A' i := fun j hj a ha' => by
    obtain ⟨c1, c2⟩ := S1.cell ha'
    cases q : H1 a with
    | none => exact absurd q c1
    | some ob =>
      obtain ⟨k1, k2, k3⟩ := N'.keep a ob q fun i hi => by
        obtain ⟨j2, e2, m2⟩ := B0m i a hi
        exact S1.dis j j2 (fun z => hj (by rw [z]; exact mem_bsL e2)) a ha' m2
      exact ⟨k1, k3 c2, k2⟩
  have S2 : StOk K c A2 (putB ρ1 bs fin) F' σ H' := by
    refine ⟨S'.ex, by rw [putB_length]; exact S1.len, fun j d e => ?_, fun j hj => ?_, fun i l hil a h1 h2 => ?_⟩
    · by_cases hb : j ∈ bsL bs
      · obtain ⟨i, hi⟩ := of_bsL hb
        obtain ⟨v', g1, g2⟩ := a2 i j hi
        have hjl : j < ρ1.length := by
          rw [S1.len]
          exact (List.getElem?_eq_some_iff.mp g2).1
        obtain ⟨d', g3, g4⟩ := putB_in (ρ := ρ1) (ds := fin) nd lfin.symm hjl hi
        rw [g4] at e
        cases e
        obtain ⟨w, g5, g6⟩ := S'.own i d (by simp [g3])
        have g5' : w = v' := by
          rw [List.getElem?_map, g1] at g5
          cases g5
          rfl
        subst g5'
        have q0 := o2 i j hi
        rw [Nat.zero_add] at q0
        rw [← q0, fi i j hi]
        exact ⟨w, g2, g6⟩
      · rw [putB_out hb] at e
        obtain ⟨v', g1, g2⟩ := S1.own j d e
        rw [fo j hb]
        exact ⟨v', g1, g2.later N'.exF fun a ha' => ⟨(kept j hb a ha').1, (kept j hb a ha').2.1⟩⟩
    · by_cases hb : j ∈ bsL bs
      · obtain ⟨i, hi⟩ := of_bsL hb
        obtain ⟨v', g1, g2⟩ := a2 i j hi
        have hjl : j < ρ1.length := by
          rw [S1.len]
          exact (List.getElem?_eq_some_iff.mp g2).1
        obtain ⟨d', g3, g4⟩ := putB_in (ρ := ρ1) (ds := fin) nd lfin.symm hjl hi
        exact absurd g4 (hj d')
      · rw [fo j hb]
        exact S1.no j fun d e => hj d (by rw [putB_out hb]; exact e)
    · by_cases hb : i ∈ bsL bs
      · obtain ⟨i', hi'⟩ := of_bsL hb
        rw [fi i' i hi'] at h1
        by_cases hl : l ∈ bsL bs
        · obtain ⟨l', hl'⟩ := of_bsL hl
          rw [fi l' l hl'] at h2
          exact S'.dis i' l' (fun z => hil (by rw [z, hl'] at hi'; cases hi'; rfl)) a h1 h2
        · rw [fo l hl] at h2
          exact (kept l hl a h2).2.2 i' h1
      · rw [fo i hb] at h1
        by_cases hl : l ∈ bsL bs
        · obtain ⟨l', hl'⟩ := of_bsL hl
          rw [fi l' l hl'] at h2
          exact (kept i hb a h1).2.2 l' h2
        · rw [fo l hl] at h2
          exact S1.dis i l hil a h1 h2
  have N2 : Nxt (bsL bs) A1 F1 H1 A2 F' H' := by
    refine ⟨N'.exF, N'.grow, fun a o h1 h2 => ?_, fun j hj => ⟨fo j hj, fun a ha' => (kept j hj a ha').1⟩, fun j a h1 => ?_⟩
    · obtain ⟨k1, k2, k3⟩ := N'.keep a o h1 fun i hi => by
        obtain ⟨j2, _, m2⟩ := B0m i a hi
        exact h2 j2 m2
      refine ⟨k1, fun j hj => ?_, k3⟩
      by_cases hb : j ∈ bsL bs
      · obtain ⟨i, hi⟩ := of_bsL hb
        rw [fi i j hi] at hj
        exact k2 i hj
      · rw [fo j hb] at hj
        exact h2 j hj
    · by_cases hb : j ∈ bsL bs
      · obtain ⟨i, hi⟩ := of_bsL hb
        rw [fi i j hi] at h1
        rcases N'.src i a h1 with ⟨l, hl⟩ | hn
        · obtain ⟨j2, _, m2⟩ := B0m l a hl
          exact .inl ⟨j2, m2⟩
        · exact .inr hn
      · rw [fo j hb] at h1
        exact .inl ⟨j, h1⟩
  refine k v A2 F' H' S2 (N1.trans N2) (Res.back N1 ?_)
  obtain ⟨B, ho, hBB⟩ := R
  refine ⟨B, ho, fun a ha' => ?_⟩
  rcases hBB a ha' with ⟨z1, z2⟩ | ⟨i, hi, _⟩
  · refine .inl ⟨fun j hj => ?_, ?_⟩
    · by_cases hb : j ∈ bsL bs
      · obtain ⟨i, hi⟩ := of_bsL hb
        rw [fi i j hi] at hj
        exact z1 i hj
      · rw [fo j hb] at hj
        rcases z2 with ⟨l, hl⟩ | z2
        · obtain ⟨j2, e2, m2⟩ := B0m l a hl
          exact S1.dis j j2 (fun z => hb (by rw [z]; exact mem_bsL e2)) a hj m2
        · exact (S1.cell hj).1 z2
    · rcases z2 with ⟨l, hl⟩ | z2
      · obtain ⟨j2, _, m2⟩ := B0m l a hl
        exact .inl ⟨j2, m2⟩
      · exact .inr z2
  · simp at hi
theorem de_call {X : Cx} {c c0 : Cfg} {x : Str} {p pos : Pos} {e : Expr} {es : List Expr} {k : Nat} {f : Addr} {fd : FuncData} {ps : List Str} {np n : Nat} {m : List D → Option (D × List D)} {bs : List (Option Nat)} {M : List Nat} {g : GA}
    (F : FnOk X.prog X.w X.K X.mg X.base CX0 k f fd ps (spD X.K c0 np n m)) (hr : Room k X.A) (hm : X.mg x = some (.ref f)) (hk : PySem.W.keepIn X.K (.ref f) = true) (hb : Binds X.K fd ps []) (ha : DA X c (e :: es) bs M g)
    (hnp : bs.length = np := by rfl) (ok : okB c c0 0 bs = true := by rfl) (nd : (bsL bs).Nodup := by decide) (hg : Gl X x := by rfl) (hdb : (x == ("__debug__" : Str)) = false := by decide) (he : starEach (e :: es) X.env = (false, eval e X.env) :: starEach es X.env := by rfl) (hpl : (backTo pos (starEach es X.env)).any (·.1) = false := by rfl) :
    DE X c (.Call (.Name x p) (e :: es) [] pos) n [] (M ++ bsL bs) (gCall bs m g) := by
  refine PE.imp (pe_call (dvs := []) F hr hg hm hk hb .nil pass0 ha hdb he hpl) fun σ H Q w => ?_
  obtain ⟨A, F0, ρ, d, ρ', S, eg, kk⟩ := w
  obtain ⟨⟨ds, ρ1⟩, e1, eg⟩ := Option.bind_eq_some_iff.mp eg
  obtain ⟨fs, e2, eg⟩ := Option.bind_eq_some_iff.mp eg
  obtain ⟨⟨r, fin⟩, e3, eg⟩ := Option.map_eq_some_iff.mp eg
  cases eg
  refine ⟨A, F0, ρ, ds, ρ1, S, e1, fun vs A1 F1 H1 S1 N1 r1 => ?_⟩
  show spD X.K c0 np n m (vs ++ []) H1 Q E0
  rw [List.append_nil]
  exact call_read ok nd hnp S1 N1 r1 e2 e3 kk
end DL

set_option Elab.async false
set_option linter.all false
set_option maxRecDepth 100000
set_option maxHeartbeats 4000000
/-! DLNd: dicts keyed by (tuple of ints, int), with truths: {}, not in, d[k], d[k] = b -/
namespace DL
open PySem L2 PyProof.Rows
theorem ints_dp {K : Fr} {F : Hp} : ∀ {l : List Int} {vs : List V}, DpAll K F vs (l.map PyData.int) → vs = l.map V.int
  | [], _, h => by
    cases h
    rfl
  | x :: l, _, h => by
    cases h with
    | cons h1 h2 =>
      cases h1
      rw [ints_dp h2]
      rfl
/-- the two tuples of a key -/
def KyAt (H : Hp) (t : Addr) (k : NK) : Prop := ∃ t1, H t = some (.tup [.ref t1, .int k.2]) ∧ H t1 = some (.tup (k.1.map V.int))
theorem dp_key {K : Fr} {F : Hp} {t : Addr} {k : NK} (h : Dp K F (.ref t) (kyD k)) : KyAt F t k := by
  unfold kyD at h
  cases h with
  | tup h1 h2 =>
    cases h2 with
    | cons a1 a2 =>
      cases a2 with
      | cons b1 b2 =>
        cases b1
        cases b2
        cases a1 with
        | tup c1 c2 =>
          rw [ints_dp c2] at c1
          exact ⟨_, h1, c1⟩
theorem KyAt.ex {F H : Hp} {t : Addr} {k : NK} (e : Ex F H) (h : KyAt F t k) : KyAt H t k := by
  obtain ⟨t1, h1, h2⟩ := h
  exact ⟨t1, e _ _ h1, e _ _ h2⟩
theorem vals_nums {h : Heap} : ∀ {l : List Int} {us : List Value}, Vals (l.map V.int) us → NestedAll h (l.map .num) us
  | [], _, r => by
    rw [List.map_nil] at r
    cases r
    exact .nil
  | x :: l, _, r => by
    rw [List.map_cons] at r
    cases r with
    | cons r1 r2 =>
      obtain ⟨t, rfl⟩ := r1
      exact .cons (.int _ _) (vals_nums r2)
theorem depth_nums : ∀ l : List Int, NestedKey.depthAll (l.map .num) = 0
  | [] => rfl
  | x :: l => by
    rw [List.map_cons, NestedKey.depthAll, depth_nums l]
    rfl
theorem depth_key (k : NK) : (nkey k).depth ≤ 8 := by
  unfold nkey
  simp only [NestedKey.depth, NestedKey.depthAll, depth_nums]
  decide
section
variable {X : Cx} {pins : List (Addr × Obj)} {σ : L2.St} {H : Hp} {s : Shared} {t a : Addr} {k : NK} {kvs : List KV}
theorem KyAt.is (I : Inv X pins σ H s) (h : KyAt H t k) : (nestedKind X.prog X.w).is s.heap (nkey k) t := by
  obtain ⟨t1, h1, h2⟩ := h
  obtain ⟨its, r, ⟨o, ho, hc, n, hd⟩, _⟩ := I.tuple (SqT.of h1)
  obtain ⟨its1, r1, ⟨o1, ho1, hc1, n1, hd1⟩, _⟩ := I.tuple (SqT.of h2)
  refine ⟨?_, depth_key k⟩
  cases r with
  | cons a1 a2 =>
    cases a2 with
    | cons b1 b2 =>
      cases b2
      obtain ⟨u, rfl⟩ := b1
      cases a1
      exact .tup ho hc hd (.cons (.tup ho1 hc1 hd1 (vals_nums r1)) (.cons (.int _ _) .nil))
def xsN (kvs : List KV) : List (NestedKey × Addr × Value) := kvs.map fun p => (nkey p.1.2, p.1.1, .bool p.2)
theorem nodup_nk : ∀ {l : List NK}, l.Nodup → (l.map nkey).Nodup
  | [], _ => List.nodup_nil
  | x :: l, h => by
    rw [List.nodup_cons] at h
    rw [List.map_cons, List.nodup_cons]
    refine ⟨fun q => ?_, nodup_nk h.2⟩
    obtain ⟨y, hy, e⟩ := List.mem_map.mp q
    rw [nkey_inj e] at hy
    exact h.1 hy
theorem dict_of {prog : Program} {w : World} {h : Heap} (d : DNat h a kvs) (hk : ∀ p ∈ kvs, (nestedKind prog w).is h (nkey p.1.2) p.1.1) : h.DictOfH (nestedKind prog w) a (xsN kvs) := by
  obtain ⟨o, es, ep, h1, h2, h3, h4, h5, _⟩ := d
  refine ⟨o, es, ep, h1, h2, h3, ?_, fun x hx => ?_, ?_⟩
  · rw [h4 w]
    unfold xsN
    rw [List.map_map]
    rfl
  · obtain ⟨p, hp, rfl⟩ := List.mem_map.mp hx
    exact hk p hp
  · have := nodup_nk h5
    rw [List.map_map] at this
    unfold xsN
    rw [List.map_map]
    exact this
theorem ent_w (w w' : World) (p : KV) : entN w p = entN w' p := by
  unfold entN
  rw [hash_w w w']
theorem nat_of {prog : Program} {w : World} {h : Heap} (hd : (a == sysModules) = false) (d : h.DictOfH (nestedKind prog w) a (xsN kvs)) : DNat h a kvs := by
  obtain ⟨o, es, ep, h1, h2, h3, h4, _, h5⟩ := d
  refine ⟨o, es, ep, h1, h2, h3, fun w' => ?_, ?_, hd⟩
  · rw [h4]
    unfold xsN
    rw [List.map_map]
    exact List.map_congr_left fun p _ => ent_w w w' p
  · unfold xsN at h5
    rw [List.map_map] at h5
    have e : kvs.map (Prod.fst ∘ fun p : KV => (nkey p.1.2, p.1.1, Value.bool p.2)) = (kvs.map (·.1.2)).map nkey := by
      rw [List.map_map]
      rfl
    rw [e] at h5
    exact (List.pairwise_map.mp h5).imp fun z e => z (by rw [e])
theorem atKey_xs (k : NK) : ∀ kvs : List KV, atKey (xsN kvs) (nkey k) = (kvs.find? fun p => decide (p.1.2 = k)).map fun p => (p.1.1, Value.bool p.2)
  | [] => rfl
  | p :: kvs => by
    have ih := atKey_xs k kvs
    unfold atKey xsN at ih ⊢
    rw [List.map_cons, List.find?_cons, List.find?_cons]
    by_cases e : p.1.2 = k
    · have e1 : decide (nkey p.1.2 = nkey k) = true := decide_eq_true (by rw [e])
      have e2 : decide (p.1.2 = k) = true := decide_eq_true e
      simp only [e1, e2, Option.map_some]
    · have e1 : decide (nkey p.1.2 = nkey k) = false := decide_eq_false fun z => e (nkey_inj z)
      have e2 : decide (p.1.2 = k) = false := decide_eq_false e
      simp only [e1, e2]
      exact ih
theorem no_stay (a : Addr) (kvs : List KV) : ∀ h1 h2 : Heap, DNat h1 a kvs → (∀ o, h1.get? a = some o → h2.get? a = some o) → DNat h2 a kvs := fun h1 h2 d k => by
  obtain ⟨o, es, ep, q1, q2⟩ := d
  exact ⟨o, es, ep, k _ q1, q2⟩
theorem no_ok (I : Inv X pins σ H s) (e : H a = some (DNo a kvs)) : DNat s.heap a kvs := (I.hok a _ e).1
theorem no_dict (I : Inv X pins σ H s) (e : H a = some (DNo a kvs)) (hk : ∀ p ∈ kvs, KyAt H p.1.1 p.1.2) : s.heap.DictOfH (nestedKind X.prog X.w) a (xsN kvs) ∧ (a == sysModules) = false := by
  have d := no_ok I e
  refine ⟨dict_of d fun p hp => (hk p hp).is I, ?_⟩
  obtain ⟨_, _, _, _, _, _, _, _, z⟩ := d
  exact z
end
/-! ### the rules -/
def getK (kvs : List KV) (k : NK) : Option Bool := (kvs.find? fun p => decide (p.1.2 = k)).map (·.2)
def rNIn : R2 := fun x y H Q => ∃ t a k kvs, x = .ref t ∧ y = .ref a ∧ KyAt H t k ∧ H a = some (DNo a kvs) ∧ (∀ p ∈ kvs, KyAt H p.1.1 p.1.2) ∧ Q (.bl (!(getK kvs k).isSome)) H
def rNGet : R2 := fun x y H Q => ∃ t a k kvs b, x = .ref a ∧ y = .ref t ∧ KyAt H t k ∧ H a = some (DNo a kvs) ∧ (∀ p ∈ kvs, KyAt H p.1.1 p.1.2) ∧ getK kvs k = some b ∧ Q (.bl b) H
def rNSet : TSet := fun o i v H Q => ∃ t a k kvs b, o = .ref a ∧ i = .ref t ∧ v = .bl b ∧ KyAt H t k ∧ H a = some (DNo a kvs) ∧ (∀ p ∈ kvs, KyAt H p.1.1 p.1.2) ∧ getK kvs k = none ∧ kvs.length < lim ∧
  Q (upd H a (DNo a (kvs ++ [((t, k), b)])))
section
variable {X : Cx}
theorem room_n (hu : X.A.units + 65 < cLine) : (nestedKind X.prog X.w).room X.A.in1 := by
  show X.A.in1.units + 8 < cLine
  simp only [Around.in1_units]
  omega
theorem room_n0 (hu : X.A.units + 65 < cLine) : (nestedKind X.prog X.w).room X.A.in1 := room_n hu
theorem op_notInN (hu : X.A.units + 65 < cLine) : OpR X (compareOp .NotIn) rNIn := by
  intro pins s σ H x y v u Q I rx ry h
  obtain ⟨t, a, k, kvs, rfl, rfl, hk, hd, hks, q⟩ := h
  cases rx
  cases ry
  obtain ⟨dd, hs⟩ := no_dict I hd hks
  refine wpAny_notIn_heap (room_n hu) (hk.is I) hs dd ⟨.bl (!(getK kvs k).isSome), H, I.tok _, ?_, q⟩
  rw [atKey_xs]
  unfold getK
  rw [Option.isSome_map, Option.isSome_map]
  rfl
theorem ix_N (hu : X.A.units + 65 < cLine) : IxR X rNGet := by
  intro value slice pins s σ H x y v u Q I rx ry h hs
  obtain ⟨t, a, k, kvs, b, rfl, rfl, hk, hd, hks, hg, q⟩ := h
  cases rx
  cases ry
  obtain ⟨dd, hsm⟩ := no_dict I hd hks
  unfold getK at hg
  obtain ⟨p, hp, hp2⟩ := Option.map_eq_some_iff.mp hg
  have ha : atKey (xsN kvs) (nkey k) = some (p.1.1, .bool p.2) := by
    rw [atKey_xs, hp]
    rfl
  exact subscriptTail_builtinR (x := .bool p.2) dd.typeIs PySem.F.slot_dict_getitem.lookup
    (wpAny_getItem_heap (Q := fun r s' => r = .bool p.2 ∧ EP X pins σ Q r s') (room_n hu) (hk.is I) dd ha ⟨rfl, .bl p.2, H, I.tok _, rfl, by rw [hp2]; exact q⟩) hs
theorem set_N (hu : X.A.units + 65 < cLine) : PSet X rNSet := by
  intro pins s σ H o i v ov iv u Q I ro ri rv h
  obtain ⟨t, a, k, kvs, b, rfl, rfl, rfl, hk, hd, hks, hg, hl, q⟩ := h
  cases ro
  cases ri
  cases rv
  obtain ⟨dd, hsm⟩ := no_dict I hd hks
  have ha : atKey (xsN kvs) (nkey k) = none := by
    rw [atKey_xs]
    unfold getK at hg
    rw [Option.map_eq_none_iff] at hg ⊢
    exact hg
  have hz : (xsN kvs).length ≤ sizeLine := by
    unfold xsN
    rw [List.length_map]
    exact lim_ok (Nat.le_of_lt hl)
  refine wpAny_setItem_heap (hsz := hz) (room_n hu) (hk.is I) dd fun h' dd' hs => ⟨_, ?_, q⟩
  rw [storedH_new ha] at dd'
  have e : xsN kvs ++ [(nkey k, t, Value.bool b)] = xsN (kvs ++ [((t, k), b)]) := by
    unfold xsN
    rw [List.map_append]
    rfl
  rw [e] at dd'
  have dn := nat_of hsm dd'
  have he : ∃ q, h'.get? a = some q := by
    obtain ⟨q, _, _, hq, _⟩ := dd'
    exact ⟨q, hq⟩
  exact d_write I (by rw [hd]; exact True.intro) hs he ⟨dn, he, no_stay a _⟩
def tNNew : TE := fun _ H Q => ∀ p, H p = none → Q (.ref p) (upd H p (DNo p []))
theorem pe_nnew {pos : Pos} : PE X (.Dict [] [] pos) tNNew := ⟨fun pins s σ H Q I h => by
  have hd : ((s.heap.objs.size : Addr) == sysModules) = false := beq_eq_false_iff_ne.mpr (Nat.ne_of_gt I.big)
  have dn : DNat (s.heap.push { cls := .type "dict", data := .dict #[] }) s.heap.objs.size [] := ⟨_, #[], 0, Heap.get?_push_size _ rfl, ⟨rfl, rfl, rfl⟩, rfl, fun _ => rfl, List.nodup_nil, hd⟩
  exact wpAny_Dict_empty ⟨.ref s.heap.objs.size, _, I.laid (a := s.heap.objs.size) (o := DNo s.heap.objs.size []) (t' := s.toks) (fun _ _ q => Heap.get?_push_of_some _ q) (Nat.le_refl _) ⟨dn, ⟨_, Heap.get?_push_size _ rfl⟩, no_stay _ _⟩, rfl, h _ (I.hok.fresh (Nat.le_refl _))⟩⟩
end
/-! ### the layer -/
def kyOf : D → Option NK
  | .tuple [.tuple ds, .int i] => (intsOf ds).map fun l => (l, i)
  | _ => none
theorem intsOf_ints : ∀ l : List Int, intsOf (l.map PyData.int) = some l
  | [] => rfl
  | x :: l => by
    rw [List.map_cons]
    simp only [intsOf, intsOf_ints l, Option.map_some]
theorem kyOf_ky (k : NK) : kyOf (kyD k) = some k := by
  unfold kyD kyOf
  simp only [intsOf_ints, Option.map_some]
theorem of_intsOf : ∀ {ds : List D} {l : List Int}, intsOf ds = some l → ds = l.map .int
  | [], l, h => by
    simp [intsOf] at h
    subst h
    rfl
  | d :: ds, l, h => by
    cases d <;> simp [intsOf] at h
    obtain ⟨a, h1, h2⟩ := h
    rw [of_intsOf h1, ← h2]
    rfl
theorem of_kyOf {d : D} {k : NK} (h : kyOf d = some k) : d = kyD k := by
  unfold kyOf at h
  split at h
  · obtain ⟨l, e1, e2⟩ := Option.map_eq_some_iff.mp h
    rw [of_intsOf e1, ← e2]
    rfl
  · cases h
def getN (kvs : List (D × D)) (k : NK) : Option D := (kvs.find? fun p => decide (kyOf p.1 = some k)).map (·.2)
theorem getN_map (k : NK) : ∀ kvs : List KV, getN (kvs.map dkv) k = (getK kvs k).map .bool
  | [] => rfl
  | p :: kvs => by
    have ih := getN_map k kvs
    unfold getN getK at ih ⊢
    rw [List.map_cons, List.find?_cons, List.find?_cons]
    have e0 : kyOf (dkv p).1 = some p.1.2 := kyOf_ky p.1.2
    by_cases e : p.1.2 = k
    · have e1 : decide (kyOf (dkv p).1 = some k) = true := decide_eq_true (by rw [e0, e])
      have e2 : decide (p.1.2 = k) = true := decide_eq_true e
      simp only [e1, e2, Option.map_some]
      rfl
    · have e1 : decide (kyOf (dkv p).1 = some k) = false := decide_eq_false fun z => e (by rw [e0] at z; exact Option.some.inj z)
      have e2 : decide (p.1.2 = k) = false := decide_eq_false e
      simp only [e1, e2]
      exact ih
def goodN : List (D × D) → Bool
  | (.none, _) :: _ => false
  | _ => true
theorem own_nd {K : Fr} {F H : Hp} {v : V} {kd : List (D × D)} {B : List Addr} (h : Own K F H 1 v (.dict kd) B) (hg : goodN kd = true) :
    ∃ a kvs, v = .ref a ∧ kd = kvs.map dkv ∧ B = [a] ∧ H a = some (DNo a kvs) ∧ F a = none ∧ ∀ p ∈ kvs, Dp K F (.ref p.1.1) (kyD p.1.2) := by
  unfold Own at h
  rcases h with ⟨h, _⟩ | ⟨_, _, _, _, _, e, _⟩ | ⟨p, kvs, ds, B', e1, e2, e3, h1, h2, h3, h4⟩ | ⟨p, kvs, _, B', e1, e2, e3, h1, h2, h3, h4, h5⟩
  · cases h
  · cases e
  · injection e2 with e2
    rw [e2] at hg
    cases hg
  · subst h4
    exact ⟨p, kvs, e1, by injection e2, e3, h1, h2, h5⟩
theorem ownL_nd {K : Fr} {F H : Hp} {v : V} {kd : List (D × D)} {B : List Addr} (e : Ex F H) (h : OwnL K F H 1 v (.dict kd) B) (hg : goodN kd = true) :
    ∃ a kvs, v = .ref a ∧ kd = kvs.map dkv ∧ H a = some (DNo a kvs) ∧ ∀ p ∈ kvs, KyAt H p.1.1 p.1.2 := by
  rcases h with ⟨h, _⟩ | h
  · cases h
  obtain ⟨a, kvs, e1, e2, _, h1, _, h2⟩ := own_nd h hg
  exact ⟨a, kvs, e1, e2, h1, fun p hp => (dp_key (h2 p hp)).ex e⟩
theorem ownL_ky {K : Fr} {F H : Hp} {v : V} {d : D} {k : NK} {B : List Addr} (e : Ex F H) (h : OwnL K F H 0 v d B) (hk : kyOf d = some k) : ∃ t, v = .ref t ∧ KyAt H t k := by
  rw [of_kyOf hk] at h
  have h1 := (h.flat (by rfl)).1
  have h2 := h1
  unfold kyD at h2
  cases h2 with
  | tup q1 q2 => exact ⟨_, rfl, (dp_key h1).ex e⟩
def ninN (x y : D) : Option D := match y with
  | .dict kd => if goodN kd = true then (kyOf x).map fun k => .bool (!(getN kd k).isSome) else none
  | _ => none
def getD (x y : D) : Option D := match x with
  | .dict kd => if goodN kd = true then (kyOf y).bind fun k => getN kd k else none
  | _ => none
section
variable {X : Cx} {c : Cfg} {e a b ix : Expr} {n n1 n2 n3 m1 m2 : Nat} {da db Ma Mb M Me Mi deps : List Nat} {ga gb g gi ge : GE} {pos p tpos : Pos}
theorem od_ninN (hu : X.A.units + 65 < cLine) : OpD X (compareOp .NotIn) 0 1 0 ninN := ⟨_, op_notInN hu, fun F H x y dx dy d B1 B2 e ox oy hs Q k => by
  unfold ninN at hs
  split at hs
  · rename_i kd
    split at hs
    · rename_i hg
      obtain ⟨ky, h1, h2⟩ := Option.map_eq_some_iff.mp hs
      obtain ⟨t, rfl, ht⟩ := ownL_ky e ox h1
      obtain ⟨a, kvs, rfl, rfl, ha, hks⟩ := ownL_nd e oy hg
      refine ⟨t, a, ky, kvs, rfl, rfl, ht, ha, hks, ?_⟩
      have e1 : (getN (kvs.map dkv) ky).isSome = (getK kvs ky).isSome := by rw [getN_map, Option.isSome_map]
      rw [e1] at h2
      subst h2
      exact KQ.flat k e (.bl _)
    · cases hs
  · cases hs⟩
theorem n_rule {K : Fr} : ∀ F H x y dx dy d B1 B2, Ex F H → OwnL K F H 1 x dx B1 → OwnL K F H 0 y dy B2 → getD dx dy = some d →
    ∀ Q : VK, (∀ v F' H' B, Gr F H F' H' → Own K F' H' 0 v d B → (∀ a ∈ B, H a = none) → Q v H') → rNGet x y H Q := fun F H x y dx dy d B1 B2 e ox oy hs Q k => by
  unfold getD at hs
  split at hs
  · rename_i kd
    split at hs
    · rename_i hg
      obtain ⟨ky, h1, h2⟩ := Option.bind_eq_some_iff.mp hs
      obtain ⟨t, rfl, ht⟩ := ownL_ky e oy h1
      obtain ⟨a, kvs, rfl, rfl, ha, hks⟩ := ownL_nd e ox hg
      rw [getN_map] at h2
      obtain ⟨bb, h3, rfl⟩ := Option.map_eq_some_iff.mp h2
      exact ⟨t, a, ky, kvs, bb, rfl, rfl, ht, ha, hks, h3, KQ.flat k e (.bl _)⟩
    · cases hs
  · cases hs
/-- d[k] -/
theorem de_getKey (hu : X.A.units + 65 < cLine) (ha : DE X c a 1 da Ma ga) (hb : DE X c b 0 db Mb gb) (hp : PlainIx b := by exact fun _ _ => rfl) (hd : ∀ i ∈ da, i ∉ Mb := by decide) : DE X c (.Subscript a b pos) 0 [] (Ma ++ Mb) (gBin getD ga gb) :=
  PE.imp (pe_ix (ix_N hu) ha hb hp) fun σ H Q w => bin_core (n1 := 1) (n2 := 0) w hd (by decide) n_rule
/-- {} -/
theorem de_newN : DE X c (.Dict [] [] pos) 1 [] [] (gC (.dict [])) := by
  refine PE.imp pe_nnew fun σ H Q w => ?_
  obtain ⟨A, F, ρ, d, ρ', S, eg, k⟩ := w
  cases eg
  intro q hq
  exact fin_op S Nxt.refl k _ F _ [q] (Gr.newLst S.ex hq) (by
    unfold Own
    exact .inr (.inr (.inr ⟨q, [], (), [], rfl, rfl, rfl, upd_same, ex_none S.ex hq, by simp, rfl, by simp⟩))) (by simp [hq])
theorem cell_nd {K : Fr} {A : Nat → List Addr} {ρ : Env} {F H : Hp} {σ : L2.St} (S : StOk K c A ρ F σ H) {i : Nat} {kd : List (D × D)} (e : ρ[i]? = some (some (.dict kd))) (hd : c.dep i = 1) (hg : goodN kd = true) :
    ∃ a kvs, σ[i]? = some (some (.ref a)) ∧ A i = [a] ∧ kd = kvs.map dkv ∧ H a = some (DNo a kvs) ∧ F a = none ∧ ∀ p ∈ kvs, Dp K F (.ref p.1.1) (kyD p.1.2) := by
  obtain ⟨v, h1, h2⟩ := S.own i _ e
  rw [hd] at h2
  obtain ⟨a, kvs, rfl, e2, e3, q1, q2, q3⟩ := own_nd h2 hg
  exact ⟨a, kvs, h1, e3, e2, q1, q2, q3⟩
theorem nd_put {K : Fr} {A : Nat → List Addr} {ρ : Env} {F H : Hp} {σ : L2.St} (S : StOk K c A ρ F σ H) {i : Nat} {a : Addr} {kvs : List KV} (hA : A i = [a]) (hd : c.dep i = 1) (hs : σ[i]? = some (some (.ref a))) (h : ∀ p ∈ kvs, Dp K F (.ref p.1.1) (kyD p.1.2)) :
    StOk K c A (ρ.set i (some (.dict (kvs.map dkv)))) F σ (upd H a (DNo a kvs)) ∧ Nxt [i] A F H A F (upd H a (DNo a kvs)) := by
  have ha : a ∈ A i := by rw [hA]; simp
  obtain ⟨c1, c2⟩ := S.cell ha
  have hi : i < ρ.length := by rw [S.len]; exact (List.getElem?_eq_some_iff.mp hs).1
  refine ⟨⟨fun b o q => ?_, by simpa using S.len, fun j d' ej => ?_, fun j hj => ?_, S.dis⟩, ⟨Ex.refl _, fun b hb => ?_, fun b o hb hn => ⟨?_, hn, fun z => z⟩, fun j hj => ⟨rfl, fun b hb => ?_⟩, fun j b hb => .inl ⟨j, hb⟩⟩⟩
  · by_cases hb : b = a
    · rw [hb, c2] at q
      cases q
    · rw [upd_ne hb]
      exact S.ex b o q
  · by_cases hji : j = i
    · subst hji
      rw [List.getElem?_set_self hi] at ej
      cases ej
      refine ⟨.ref a, hs, ?_⟩
      rw [hd, hA]
      unfold Own
      exact .inr (.inr (.inr ⟨a, kvs, (), [], rfl, rfl, rfl, upd_same, c2, by simp, rfl, h⟩))
    · rw [List.getElem?_set_ne (Ne.symm hji)] at ej
      obtain ⟨w, h1, h2⟩ := S.own j d' ej
      exact ⟨w, h1, h2.later (Ex.refl _) fun b hb => ⟨upd_ne fun z => S.dis j i hji b hb (by rw [z]; exact ha), (h2.cells b hb).2⟩⟩
  · by_cases hji : j = i
    · subst hji
      exact absurd (List.getElem?_set_self hi) (hj _)
    · exact S.no j fun d' e => hj d' (by rw [List.getElem?_set_ne (Ne.symm hji)]; exact e)
  · by_cases hz : b = a
    · rw [hz, upd_same]
      simp
    · rw [upd_ne hz]
      exact hb
  · rw [upd_ne fun z => hn i (by rw [z]; exact ha)]
    exact hb
  · have hji : j ≠ i := fun z => hj (by simp [z])
    exact upd_ne fun z => S.dis j i hji b hb (by rw [z]; exact ha)
def getDc (i : Nat) (ρ : Env) : Option (List (D × D)) := match ρ[i]? with
  | some (some (.dict kd)) => if goodN kd = true then some kd else none
  | _ => none
theorem getDc_some {i : Nat} {ρ : Env} {kd : List (D × D)} (h : getDc i ρ = some kd) : ρ[i]? = some (some (.dict kd)) ∧ goodN kd = true := by
  unfold getDc at h
  split at h
  · rename_i kd' e
    split at h
    · rename_i hg
      cases h
      exact ⟨e, hg⟩
    · cases h
  · cases h
/-- d[k] = b, k not yet there -/
def sSetKey (i : Nat) (gi ge : GE) : GS := fun ρ => (getDc i ρ).bind fun _ => (ge ρ).bind fun p => (gi p.2).bind fun q => (asB p.1).bind fun b => (kyOf q.1).bind fun k => (getDc i q.2).bind fun kd =>
  if getN kd k = none ∧ kd.length < lim then some (.nx (q.2.set i (some (.dict (kd ++ [(kyD k, .bool b)]))))) else none
theorem ds_setKey {i : Nat} (hu : X.A.units + 65 < cLine) (hv : PE X a (tVar i)) (hi : DE X c ix 0 [] Mi gi) (he : DE X c e 0 [] Me ge) (hd : c.dep i = 1 := by rfl)
    (ha : ∀ v, assign (.Subscript a ix tpos) X.env v = (do
      let ov ← holding [v] (eval a X.env)
      let iv ← holding [v, ov] (eval ix X.env)
      standAt tpos
      holding [v, ov, iv] (setItem ov iv v)
      release [v, ov, iv] []) := by intro _; rfl) (hs : swapsWithSole [.Subscript a ix tpos] e pos.line X.env = pure false := by rfl) (hw : swappedStores [.Subscript a ix tpos] e X.env = pure none := by rfl)
    (h1 : (assignEach [.Subscript a ix tpos] X.env).map (·.2) = [assign (.Subscript a ix tpos) X.env] := by rfl) : DS X c n (.Assign [.Subscript a ix tpos] e pos) ((Me ++ Mi) ++ [i]) (sSetKey i gi ge) := by
  refine PS.imp (ps_asg he (pg_sub hv hi (set_N hu) ha) hs hw h1) fun Ds σ H w => ?_
  obtain ⟨A, F, ρ, o, S, eg, k⟩ := w
  obtain ⟨kd0, e0, eg⟩ := Option.bind_eq_some_iff.mp eg
  obtain ⟨⟨x, ρ1⟩, e1, eg⟩ := Option.bind_eq_some_iff.mp eg
  obtain ⟨⟨y, ρ2⟩, e2, eg⟩ := Option.bind_eq_some_iff.mp eg
  obtain ⟨bb, eb, eg⟩ := Option.bind_eq_some_iff.mp eg
  obtain ⟨ky, ek, eg⟩ := Option.bind_eq_some_iff.mp eg
  obtain ⟨kd, e3, eg⟩ := Option.bind_eq_some_iff.mp eg
  split at eg
  · rename_i hc
    obtain ⟨hc1, hc2⟩ := hc
    cases eg
    obtain ⟨e0, g0⟩ := getDc_some e0
    obtain ⟨e3, g3⟩ := getDc_some e3
    have ex : x = .bool bb := by
      cases x <;> simp [asB] at eb
      rw [eb]
    obtain ⟨a0, kvs0, s0, _, _, h0, _, _⟩ := cell_nd S e0 hd g0
    refine ⟨A, F, ρ, x, ρ1, S, e1, fun v A1 F1 H1 S1 N1 r1 => ?_⟩
    refine ⟨_, s0, A1, F1, ρ1, _, ρ2, S1, e2, fun u A2 F2 H2 S2 N2 r2 => ?_⟩
    have hf := r2.froz0
    have ey : y = kyD ky := of_kyOf ek
    rw [ey] at hf
    obtain ⟨t, rfl⟩ : ∃ t, u = .ref t := by
      unfold kyD at hf
      cases hf
      exact ⟨_, rfl⟩
    obtain ⟨a1, kvs, s1, hA1, hkd, h1', _, dp1⟩ := cell_nd S2 e3 hd g3
    rw [s0] at s1
    cases s1
    subst hkd
    have hx := r1.froz0
    rw [ex] at hx
    have hvv := dp_bool hx
    have hall : ∀ p ∈ kvs ++ [((t, ky), bb)], Dp X.K F2 (.ref p.1.1) (kyD p.1.2) := fun p hp => by
      rcases List.mem_append.mp hp with q | q
      · exact dp1 p q
      · rw [List.mem_singleton.mp q]
        exact hf
    obtain ⟨S3, N3⟩ := nd_put S2 (kvs := kvs ++ [((t, ky), bb)]) hA1 hd s0 hall
    have hgk : getK kvs ky = none := by
      rw [getN_map, Option.map_eq_none_iff] at hc1
      exact hc1
    refine ⟨t, a0, ky, kvs, bb, rfl, rfl, hvv, (dp_key hf).ex S2.ex, h1', fun p hp => (dp_key (dp1 p hp)).ex S2.ex, hgk, by simpa using hc2, k σ A2 F2 _ ?_ ((N1.trans N2).trans N3) SameB.refl⟩
    have em : (kvs ++ [((t, ky), bb)]).map dkv = kvs.map dkv ++ [(kyD ky, .bool bb)] := by
      rw [List.map_append]
      rfl
    rw [em] at S3
    exact S3
  · cases eg
end
end DL

set_option Elab.async false
set_option linter.all false
set_option maxRecDepth 100000
set_option maxHeartbeats 2000000
namespace DL
open PySem L2 PyProof.Rows
section
variable {X : Cx} {c : Cfg} {e a b d tg : Expr} {es : List Expr} {n n1 n2 n3 m1 m2 : Nat} {da db dd Ma Mb Md M M2 deps W : List Nat} {ga gb gd g : GE} {pos p : Pos} {st : Stmt} {rest : List Stmt} {f h : GS} {sem sem' : D → D → Option D}
/-- a module's constant -/
theorem de_globI {x : Str} {i : Int} {t : Tok} (hm : X.mg x = some (.int i t)) (hg : Gl X x := by rfl) (hd : (x == ("__debug__" : Str)) = false := by decide) : DE X c (.Name x pos) 0 [] [] (gC (.int i)) := de_c (pe_glob (v := .int i) hg hm ⟨t, rfl⟩ hd) fun _ => .int i
theorem de_globS {x : Str} {i : Str} {t : Tok} (hm : X.mg x = some (.str i t)) (hg : Gl X x := by rfl) (hd : (x == ("__debug__" : Str)) = false := by decide) : DE X c (.Name x pos) 0 [] [] (gC (.str i)) := de_c (pe_glob (v := .str i) hg hm ⟨t, rfl⟩ hd) fun _ => .str i
/-- a < b < c -/
def gChain (sem sem' : D → D → Option D) (ga gb gd : GE) : GE := fun ρ => (ga ρ).bind fun p => (gb p.2).bind fun q => (sem p.1 q.1).bind fun z => (asB z).bind fun k => if k = true then (gd q.2).bind fun r => (sem' q.1 r.1).bind fun w => (asB w).map fun k' => (.bool k', r.2) else some (.bool false, q.2)
theorem asB_some {d : D} {b : Bool} (h : asB d = some b) : d = .bool b := by
  cases d <;> simp [asB] at h
  rw [h]
theorem chain_read {K : Fr} {r r' : R2} {σ : L2.St} {H : Hp} {Q : VK} (w : tD K c 0 [] (Ma ++ (Mb ++ Md)) (gChain sem sem' ga gb gd) σ H Q)
    (hr : ∀ F H x y dx dy d B1 B2, Ex F H → OwnL K F H 0 x dx B1 → OwnL K F H 0 y dy B2 → sem dx dy = some d → ∀ Q : VK, KQ K F H 0 d Q → r x y H Q)
    (hr' : ∀ F H x y dx dy d B1 B2, Ex F H → OwnL K F H 0 x dx B1 → OwnL K F H 0 y dy B2 → sem' dx dy = some d → ∀ Q : VK, KQ K F H 0 d Q → r' x y H Q) :
    tChain r r' (tD K c 0 [] Ma ga) (tD K c 0 [] Mb gb) (tD K c 0 [] Md gd) σ H Q := by
  obtain ⟨A, F, ρ, d, ρ', S, eg, k⟩ := w
  obtain ⟨⟨x, ρ1⟩, e1, eg⟩ := Option.bind_eq_some_iff.mp eg
  obtain ⟨⟨y, ρ2⟩, e2, eg⟩ := Option.bind_eq_some_iff.mp eg
  obtain ⟨z, e3, eg⟩ := Option.bind_eq_some_iff.mp eg
  obtain ⟨b, e4, eh⟩ := Option.bind_eq_some_iff.mp eg
  have e4 := asB_some e4
  clear eg
  subst e4
  have eg := eh
  clear eh
  refine ⟨A, F, ρ, x, ρ1, S, e1, fun vx A1 F1 H1 S1 N1 r1 => ?_⟩
  refine ⟨A1, F1, ρ1, y, ρ2, S1, e2, fun vy A2 F2 H2 S2 N2 r2 => ?_⟩
  have hx := Dp.ex N2.exF _ _ r1.froz0
  have hy := r2.froz0
  refine hr F2 H2 vx vy x y (.bool b) [] [] S2.ex (.inl ⟨hx, rfl⟩) (.inl ⟨hy, rfl⟩) e3 _ (fun v F3 H3 B3 gr o3 _ => ?_)
  have hv := (Own.zero.mp o3).1
  cases hv
  have S3 := S2.grown gr
  have N3 : Nxt (Ma ++ Mb) A F H A2 F3 H3 := by simpa using (N1.trans N2).trans (Nxt.grown gr fun i a ha => (S2.cell ha).1)
  refine ⟨b, rfl, ?_⟩
  cases b with
  | false =>
    rw [if_neg Bool.false_ne_true] at eg
    cases eg
    rw [if_neg Bool.false_ne_true]
    exact k _ A2 F3 H3 S3 (N3.mono fun i hi => by simp only [List.mem_append] at hi ⊢; rcases hi with z | z; exact .inl z; exact .inr (.inl z)) (Res.of_froz (.bl false))
  | true =>
    rw [if_pos rfl] at eg
    obtain ⟨⟨u, ρ3⟩, e5, eg⟩ := Option.bind_eq_some_iff.mp eg
    obtain ⟨w, e6, eg⟩ := Option.bind_eq_some_iff.mp eg
    obtain ⟨b', e7, eg⟩ := Option.map_eq_some_iff.mp eg
    have e7 := asB_some e7
    subst e7
    cases eg
    rw [if_pos rfl]
    refine ⟨A2, F3, ρ2, u, ρ3, S3, e5, fun vu A4 F4 H4 S4 N4 r4 => ?_⟩
    refine hr' F4 H4 vy vu y u (.bool b') [] [] S4.ex (.inl ⟨Dp.ex (gr.exF.trans N4.exF) _ _ hy, rfl⟩) (.inl ⟨r4.froz0, rfl⟩) e6 _ ?_
    have := fin_op (n3 := 0) (M := Ma ++ (Mb ++ Md)) (d := .bool b') (Q := Q) S4 (by simpa using N3.trans N4) k
    exact this
theorem de_chain {op op' : CmpOp} (ho : OpD X (compareOp op) 0 0 0 sem) (ho' : OpD X (compareOp op') 0 0 0 sem') (ha : DE X c a 0 [] Ma ga) (hb : DE X c b 0 [] Mb gb) (hd : DE X c d 0 [] Md gd) (hm : lastMarks [op, op'] [b, d] = false := by with_unfolding_all rfl) :
    DE X c (.Compare a [op, op'] [b, d] pos) 0 [] (Ma ++ (Mb ++ Md)) (gChain sem sem' ga gb gd) := by
  obtain ⟨r, hr, q⟩ := ho.ex
  obtain ⟨r', hr', q'⟩ := ho'.ex
  exact PE.imp (pe_chain hr hr' ha hb hd hm) fun σ H Q w => chain_read w q q'
/-- [e, ..] * k -/
def gRep (g : GA) (gb : GE) : GE := fun ρ => (g ρ).bind fun p => (gb p.2).bind fun q => (asI q.1).bind fun k => if p.1.length ≤ 100 ∧ k ≤ 10000 ∧ -10000 ≤ k then some (.list (List.replicate k.toNat p.1).flatten, q.2) else none
theorem nd_gRep {g : GA} {gb : GE} : ND (gRep g gb) := fun ρ d ρ' h => by
  obtain ⟨p, _, h⟩ := Option.bind_eq_some_iff.mp h
  obtain ⟨q, _, h⟩ := Option.bind_eq_some_iff.mp h
  obtain ⟨k, _, h⟩ := Option.bind_eq_some_iff.mp h
  split at h
  · cases h
    rfl
  · cases h
theorem dpAll_rep {K : Fr} {H : Hp} {ds : List D} {vs : List V} (h : DpAll K H vs ds) : ∀ k, DpAll K H (List.replicate k vs).flatten (List.replicate k ds).flatten
  | 0 => .nil
  | k + 1 => by
    rw [List.replicate_succ, List.replicate_succ, List.flatten_cons, List.flatten_cons]
    exact dpAll_append h (dpAll_rep h k)
theorem de_rep {bs : List (Option Nat)} {g : GA} {p1 : Pos} (h : DA X c es bs M g) (hk : DE X c b 0 db Mb gb) (hb : bs.all (·.isNone) = true := by rfl) : DE X c (.BinOp (.List es p1) .Mult b pos) 1 [] (M ++ Mb) (gRep g gb) := by
  refine PE.imp (pe_op op_rep (pe_lst h) hk) fun σ H Q w => ?_
  obtain ⟨A, F, ρ, d, ρ', S, eg, k⟩ := w
  obtain ⟨⟨xs, ρ1⟩, e1, eg⟩ := Option.bind_eq_some_iff.mp eg
  obtain ⟨⟨y, ρ2⟩, e2, eg⟩ := Option.bind_eq_some_iff.mp eg
  obtain ⟨j, e3, eg⟩ := Option.bind_eq_some_iff.mp eg
  have e3 := asI_some e3
  split at eg
  · rename_i hl
    cases eg
    subst e3
    refine ⟨A, F, ρ, xs, ρ1, S, e1, fun vs A1 F1 H1 S1 N1 r1 => ?_⟩
    have hd := args_froz r1 hb
    have hlv := dpAll_len hd
    have hl1 : xs.length ≤ 100 := hl.1
    refine ⟨lim_ok (by rw [hlv]; have : lim = 1000000 := rfl; omega), fun p hp => ?_⟩
    have gr := Gr.newLst (o := .lst vs) S1.ex hp
    have S2 := S1.grown gr
    have N2 : Nxt M A F H A1 F1 (upd H1 p (.lst vs)) := by simpa using N1.trans (Nxt.grown gr fun i a ha => (S1.cell ha).1)
    have hA : ∀ i, p ∉ A1 i := fun i hi => (S1.cell hi).1 hp
    refine ⟨A1, F1, ρ1, _, ρ2, S2, e2, fun v A3 F3 H3 S3 N3 r3 => ?_⟩
    have hf := r3.froz0
    cases hf
    obtain ⟨h3, _, _⟩ := N3.keep p _ upd_same hA
    have hlim : lim = 1000000 := rfl
    have e64 : (2 : Int) ^ 63 = 9223372036854775808 := by decide
    refine ⟨p, j, vs, rfl, rfl, h3, by omega, by omega, lim_ok ?_, fun q hq => KQ.lst (fin_op S3 (N2.trans N3) k) S3.ex (dpAll_rep (Dp.exAll N3.exF _ _ hd) _) hq⟩
    have : vs.length * j.toNat ≤ 100 * 10000 := Nat.mul_le_mul (by omega) (by omega)
    omega
  · cases eg
/-- for over a list or a tuple -/
def iSeq (K : Fr) (tl : TE) : TI := fun σ H R => tl σ H fun x H1 => (∃ a, x = .ref a ∧ (∃ xs, SqL K H1 a xs) ∧ R (Itl K a) H1) ∨ (∃ a, x = .ref a ∧ (∃ xs, SqT K H1 a xs) ∧ R (Itt K a) H1)
theorem pi_seq {l : Expr} {tl : TE} (hl : PE X l tl) : PI X tg l (iSeq X.K tl) := by
  refine ⟨fun pins s σ H R I h => ?_⟩
  refine thn (hl.run pins s σ H _ I h) fun v s1 ⟨x, H1, I1, r1, q1⟩ => ?_
  rcases q1 with ⟨a, e, ⟨xs, hq⟩, q⟩ | ⟨a, e, ⟨xs, hq⟩, q⟩
  · subst e
    cases r1
    obtain ⟨its, rv, p, hz⟩ := I1.list hq
    refine wpAny_pyIter_list p.isList ?_
    refine ⟨s1.heap.objs.size, [s1.heap.objs.size], _, _, H1, rfl, I1.kept (t' := s1.toks) fun b o e => Heap.get?_push_of_some _ e, turn_list a _, ⟨_, Heap.get?_push_size _ rfl, rfl, rfl⟩, fun b hb => ?_, q⟩
    have e : b = s1.heap.objs.size := by simpa using hb
    subst e
    exact I1.fpOk (Nat.le_refl _) (I1.hok.fresh (Nat.le_refl _))
  · subst e
    cases r1
    obtain ⟨its, rv, p, hz⟩ := I1.tuple hq
    refine wpAny_pyIter_tuple (show s1.heap.IsTuple a its.toArray from p) ?_
    refine ⟨s1.heap.objs.size, [s1.heap.objs.size], _, _, H1, rfl, I1.kept (t' := s1.toks) fun b o e => Heap.get?_push_of_some _ e, turn_tuple a _, ⟨_, Heap.get?_push_size _ rfl, rfl, rfl⟩, fun b hb => ?_, q⟩
    have e : b = s1.heap.objs.size := by simpa using hb
    subst e
    exact I1.fpOk (Nat.le_refl _) (I1.hok.fresh (Nat.le_refl _))
def giS (g : GE) : GI := fun ρ => (g ρ).bind fun p => (itemsD p.1).map fun ds => (ds, p.2)
theorem di_seq (he : DE X c e n1 deps M g) (hm : n1 = 0 ∨ n1 = 1 := by decide) : DI X c tg e deps M (giS g) := by
  refine PI.imp (pi_seq he) fun σ H R w => ?_
  obtain ⟨A, F, ρ, ds, ρ', S, eg, k⟩ := w
  obtain ⟨⟨d0, ρ1⟩, e1, eg⟩ := Option.bind_eq_some_iff.mp eg
  obtain ⟨ds', e2, eg⟩ := Option.map_eq_some_iff.mp eg
  cases eg
  refine ⟨A, F, ρ, d0, ρ1, S, e1, fun v A1 F1 H1 S1 N1 r1 => ?_⟩
  cases d0 <;> simp only [itemsD, Option.some.injEq] at e2 <;> first | cases e2 | skip
  · rename_i ds
    obtain ⟨B, ho, hB⟩ := id r1
    obtain ⟨a, vs, rfl, s1, a1⟩ := OwnL.lst1 S1.ex (ho.l (n := 1) hm)
    refine .inl ⟨a, rfl, ⟨vs, s1⟩, k _ A1 F1 H1 S1 N1 fun A2 F2 H2 ρ2 σ2 M2 N2 S2 hd => ?_⟩
    obtain ⟨B2, ho2, _⟩ := r1.later N2 S2 hd
    obtain ⟨a', ws, e2, s2, a2⟩ := OwnL.lst1 S2.ex (ho2.l (n := 1) hm)
    cases e2
    refine ⟨fun i d hi => ?_, ⟨ws, s2, Nat.le_of_eq (dpAll_len a2)⟩⟩
    obtain ⟨v, h1, h2⟩ := dpAll_get a2 hi
    refine ⟨⟨ws, v, s2, h1⟩, fun x H3 y => ?_⟩
    obtain ⟨e3, y⟩ := y
    subst e3
    have := y ws s2
    rw [h1] at this
    cases this
    exact ⟨F2, Gr.refl S2.ex, h2⟩
  · rename_i ds
    obtain ⟨B, ho, hB⟩ := id r1
    obtain ⟨a, vs, rfl, s1, a1⟩ := OwnL.tup (ho.l (n := n1) (.inr rfl))
    refine .inr ⟨_, rfl, ⟨_, SqT.of (S1.ex _ _ s1)⟩, k _ A1 F1 H1 S1 N1 fun A2 F2 H2 ρ2 σ2 M2 N2 S2 hd => ?_⟩
    have s2 := N2.exF _ _ s1
    have a2 := Dp.exAll N2.exF _ _ a1
    refine ⟨fun i d hi => ?_, ⟨_, SqT.of (S2.ex _ _ s2), Nat.le_of_eq (dpAll_len a2)⟩⟩
    obtain ⟨v, h1, h2⟩ := dpAll_get a2 hi
    refine ⟨⟨_, v, SqT.of (S2.ex _ _ s2), h1⟩, fun x H3 y => ?_⟩
    obtain ⟨e3, y⟩ := y
    subst e3
    have := y _ (SqT.of (S2.ex _ _ s2))
    rw [h1] at this
    cases this
    exact ⟨F2, Gr.refl S2.ex, h2⟩
/-- range(a, b, -1) -/
noncomputable def giRD (ga gb : GE) : GI := fun ρ => (ga ρ).bind fun p => (gb p.2).bind fun q => (asI p.1).bind fun i => (asI q.1).bind fun j => if rngOk i = true ∧ rngOk j = true then some ((List.range (i - j).toNat).map fun (k : Nat) => .int (i - (k : Int)), q.2) else none
theorem de_neg1 {k : Nat} {p1 p2 : Pos} : DE X c (.UnaryOp .USub (.Constant (.int 1) k p1) p2) 0 [] [] (gUn negD (gC (.int 1))) := de_un ud_neg de_int
theorem di_rngD {k : Nat} {p1 p2 : Pos} (ha : DE X c a 0 da Ma ga) (hb : DE X c b 0 db Mb gb) (hm : X.mg "range" = none) (hg : Gl X "range" := by rfl)
    (hs : starEach [a, b, .UnaryOp .USub (.Constant (.int 1) k p1) p2] X.env = (false, eval a X.env) :: starEach [b, .UnaryOp .USub (.Constant (.int 1) k p1) p2] X.env := by rfl)
    (hs2 : starEach (b :: [.UnaryOp .USub (.Constant (.int 1) k p1) p2]) X.env = (false, eval b X.env) :: starEach [.UnaryOp .USub (.Constant (.int 1) k p1) p2] X.env := by rfl)
    (hs3 : starEach (.UnaryOp .USub (.Constant (.int 1) k p1) p2 :: []) X.env = (false, eval (.UnaryOp .USub (.Constant (.int 1) k p1) p2) X.env) :: starEach [] X.env := by rfl)
    (hpl : (backTo pos (starEach [b, .UnaryOp .USub (.Constant (.int 1) k p1) p2] X.env)).any (·.1) = false := by rfl) :
    DI X c tg (.Call (.Name "range" p) [a, b, .UnaryOp .USub (.Constant (.int 1) k p1) p2] [] pos) [] (Ma ++ Mb) (giRD ga gb) := by
  have h1 : DE X c (.UnaryOp .USub (.Constant (.int 1) k p1) p2) 0 [] [] (gUn negD (gC (.int 1))) := de_neg1
  refine PI.imp (pi_range3 hg hm (pa_cons ha (pa_cons hb (pa_cons h1 pa_nil hs3) hs2) hs) hs hpl) fun σ H R w => ?_
  obtain ⟨A, F, ρ, ds, ρ', S, eg, k⟩ := w
  obtain ⟨⟨x, ρ1⟩, e1, eg⟩ := Option.bind_eq_some_iff.mp eg
  obtain ⟨⟨y, ρ2⟩, e2, eg⟩ := Option.bind_eq_some_iff.mp eg
  obtain ⟨i, e3, eg⟩ := Option.bind_eq_some_iff.mp eg
  obtain ⟨j, e4, eg⟩ := Option.bind_eq_some_iff.mp eg
  have e3 := asI_some e3
  have e4 := asI_some e4
  split at eg
  · rename_i hij
    cases eg
    subst e3 e4
    refine ⟨A, F, ρ, _, ρ1, S, e1, fun v A1 F1 H1 S1 N1 r1 => ?_⟩
    have hf := r1.froz0
    cases hf
    refine ⟨A1, F1, ρ1, _, ρ2, S1, e2, fun v A2 F2 H2 S2 N2 r2 => ?_⟩
    have hf := r2.froz0
    cases hf
    refine ⟨A2, F2, ρ2, .int (-1), ρ2, S2, rfl, fun v A3 F3 H3 S3 N3 r3 => ?_⟩
    have hf := r3.froz0
    cases hf
    have b1 := rngOk_ok hij.1
    have b2 := rngOk_ok hij.2
    refine ⟨i, j, -1, (i - j).toNat, rfl, RgC.neg b1.1 b1.2 b2.1 b2.2, k _ A3 F3 H3 S3 ((N1.trans N2).after0 N3) fun A4 F4 H4 ρ4 σ4 M4 N4 S4 hd => ⟨fun l dl hl => ?_, ?_⟩⟩
    · rw [List.getElem?_map] at hl
      cases q : (List.range (i - j).toNat)[l]? with
      | none => rw [q] at hl; cases hl
      | some l' =>
        rw [q] at hl
        cases hl
        obtain ⟨h1, h2⟩ := List.getElem?_eq_some_iff.mp q
        rw [List.getElem_range] at h2
        subst h2
        refine ⟨show l < (i - j).toNat by simpa using h1, fun x H5 y => ?_⟩
        obtain ⟨e3, y⟩ := y
        subst e3 y
        refine ⟨F4, Gr.refl S4.ex, ?_⟩
        have : i + (l : Nat) * (-1) = i - (l : Int) := by omega
        rw [this]
        exact .int _
    · show (i - j).toNat ≤ _
      simp
  · cases eg
/-- xs[::-1] -/
def revD : D → Option D
  | .list ds => some (.list ds.reverse)
  | _ => none
theorem dpAll_rev {K : Fr} {H : Hp} : ∀ {ds : List D} {vs : List V}, DpAll K H vs ds → DpAll K H vs.reverse ds.reverse
  | [], _, h => by
    cases h
    exact .nil
  | d :: ds, _, h => by
    cases h with
    | cons h1 h2 =>
      rw [List.reverse_cons, List.reverse_cons]
      exact dpAll_append (dpAll_rev h2) (.cons h1 .nil)
theorem nd_rev : ∀ x d, revD x = some d → isDict d = false := fun x d h => by
  cases x <;> simp [revD] at h
  subst h
  rfl
theorem de_rev {k : Nat} {p1 p2 p3 : Pos} (he : DE X c e n1 deps M g) (hm : n1 = 0 ∨ n1 = 1 := by decide) : DE X c (.Subscript e (.Slice none none (some (.UnaryOp .USub (.Constant (.int 1) k p1) p2)) p3) pos) 1 [] M (gUn revD g) := by
  refine PE.imp (pe_revL he) fun σ H Q w => ?_
  obtain ⟨A, F, ρ, d, ρ', S, eg, k⟩ := w
  obtain ⟨x, e1, e3⟩ := gUn_some eg
  cases x <;> simp [revD] at e3
  subst e3
  refine ⟨A, F, ρ, _, ρ', S, e1, fun v A1 F1 H1 S1 N1 r1 => ?_⟩
  obtain ⟨B, ho, _⟩ := r1
  obtain ⟨a, vs, rfl, s1, a1⟩ := OwnL.lst1 S1.ex (ho.l (n := 1) hm)
  exact ⟨a, vs, rfl, s1, fun p hp => KQ.lst (fin_op S1 N1 k) S1.ex (dpAll_rev a1) hp⟩
/-- a, b = a list -/
def ggUnl (m : Nat) (r : Env → List D → Option Env) : GG := fun ρ d => match d with
  | .list ds => if ds.length = m then r ρ ds else none
  | _ => none
theorem dg_unl {W : List Nat} {r : Env → List D → Option Env} {k m : Nat} (hc : X.calm = true) (h : DGs X c es W r) (hn : (assignEach es X.env).length = m := by rfl) (hst : (assignEach es X.env).findIdx? (·.1) = none := by rfl) : DG X c (.Tuple es k pos) W (ggUnl m r) := by
  refine PG.imp (pg_unl hc h hn hst) fun v σ H Q w => ?_
  obtain ⟨A, F, ρ, d, ρ', S, h, eg, k⟩ := w
  cases d <;> simp only [ggUnl] at eg <;> first | cases eg | skip
  split at eg
  · rename_i ds hl
    cases h with
    | lst hs ha => exact ⟨_, _, rfl, ex_l S.ex hs, (dpAll_len ha).trans hl, A, F, ρ, _, ρ', S, ha, eg, k⟩
  · cases eg
/-- only where a list is given -/
def gLO (g : GE) : GE := fun ρ => (g ρ).bind fun p => match p.1 with
  | .list ds => some (.list ds, p.2)
  | _ => none
theorem nd_gLO {g : GE} : ND (gLO g) := fun ρ d ρ' h => by
  obtain ⟨⟨x, ρ1⟩, e1, h⟩ := Option.bind_eq_some_iff.mp h
  cases x <;> simp at h
  obtain ⟨rfl, _⟩ := h
  rfl
theorem de_lo (h : DE X c e n deps M g) : DE X c e n deps M (gLO g) := by
  refine PE.imp h fun σ H Q w => ?_
  obtain ⟨A, F, ρ, d, ρ', S, eg, k⟩ := w
  obtain ⟨⟨x, ρ1⟩, e1, h⟩ := Option.bind_eq_some_iff.mp eg
  cases x <;> simp at h
  obtain ⟨rfl, rfl⟩ := h
  exact ⟨A, F, ρ, _, ρ1, S, e1, k⟩
end
end DL

set_option Elab.async false
set_option linter.all false
set_option maxRecDepth 100000
set_option maxHeartbeats 2000000
namespace DL
open PySem L2 PyProof.Rows
def fuel : Nat := 1000000
theorem nd_move {i : Nat} : ND (gMove i) := fun ρ d ρ' h => by
  obtain ⟨ds, rfl, _⟩ := gMove_some h
  rfl
/-! ### calls by keywords alone -/
def permL {α : Type} (d : α) (perm : List Nat) (zs : List α) : List α := perm.map fun i => zs.getD i d
theorem vals_getD : ∀ {vs : List V} {us : List Value} (i : Nat), Vals vs us → L2.RelV (vs.getD i .non) (us.getD i .none)
  | _, _, i, .nil => by
    show L2.RelV V.non Value.none
    rfl
  | _, _, 0, .cons r _ => by simpa using r
  | _, _, i + 1, .cons _ t => by simpa using vals_getD i t
theorem vals_perm {vs : List V} {us : List Value} (r : Vals vs us) : ∀ perm, Vals (permL .non perm vs) (permL .none perm us)
  | [] => .nil
  | i :: p => .cons (vals_getD i r) (vals_perm r p)
theorem dpAll_getD {K : Fr} {H : Hp} : ∀ {ds : List D} {vs : List V} (i : Nat), DpAll K H vs ds → Dp K H (vs.getD i .non) (ds.getD i .none)
  | [], _, i, h => by
    cases h
    simpa using Dp.non
  | d :: ds, _, 0, h => by
    cases h with
    | cons h1 h2 => simpa using h1
  | d :: ds, _, i + 1, h => by
    cases h with
    | cons h1 h2 => simpa using dpAll_getD i h2
theorem dpAll_perm {K : Fr} {H : Hp} {ds : List D} {vs : List V} (h : DpAll K H vs ds) : ∀ perm, DpAll K H (permL .non perm vs) (permL .none perm ds)
  | [] => .nil
  | i :: p => .cons (dpAll_getD i h) (dpAll_perm h p)
theorem permL_len {α : Type} {d : α} {perm : List Nat} {zs : List α} : (permL d perm zs).length = perm.length := by simp [permL]
structure KB0 (K : Fr) (fd : FuncData) (ps ks : List Str) (perm : List Nat) : Prop where
  to : ∀ (s : Shared) (ws : List Value), ws.length = ps.length → BindsTo s fd ⟨[], ks.zip ws⟩ (ps.zip (permL .none perm ws))
theorem kb_of {K : Fr} {x qual : Str} {st : Stmt} {f : Addr} {fd : FuncData} {ps ks : List Str} {perm : List Nat} (F : Fun K x qual st f fd)
    (h : ∀ (kV doc pm : Value) (an : Option Addr) (cdv ct : Value) (ws : List Value), ws.length = ps.length → bindArgs (PySem.W.fnOf x qual (defArgs st) (defBody st) (defScope st) .none kV doc pm an cdv ct) ⟨[], ks.zip ws⟩ = pure (ps.zip (permL .none perm ws))) : KB0 K fd ps ks perm := by
  obtain ⟨oc, od, kV, doc, pm, an, cdv, ct, osl, rfl, lk, hcd⟩ := F.ex
  exact ⟨fun s ws hl => .of_eq (h kV doc pm an cdv ct ws hl)⟩
section
variable {X : Cx} {c c0 : Cfg} {e a b : Expr} {es : List Expr} {n : Nat} {Ma M : List Nat} {ga g : GE} {pos p : Pos} {kws : List Keyword}
def tCallK0 (sp : Sp) (perm : List Nat) (E : XK) (m : Nat) (tk : TA) : TE := fun σ H Q => tk σ H fun zs H2 => zs.length = m ∧ sp (permL .non perm zs) H2 Q E
theorem pe_callK0 {CX : CXT} {k : Nat} {f : Addr} {fd : FuncData} {ps ks : List Str} {perm : List Nat} {sp : Sp} {E : XK} {x : Str} {tk : TA} (F : FnOk X.prog X.w X.K X.mg X.base CX k f fd ps sp) (hr : Room k X.A) (hg : Gl X x) (hm : X.mg x = some (.ref f)) (hk : PySem.W.keepIn X.K (.ref f) = true) (hb : KB0 X.K fd ps ks perm) (hx : Passes CX X E)
    (hpl : perm.length = ps.length) (hkw : PK X kws tk) (hall : (backToKw pos (keywordEach kws X.env)).all (·.1.isSome) = true := by rfl) (hks : (backToKw pos (keywordEach kws X.env)).filterMap (·.1) = ks := by rfl)
    (hdb : (x == ("__debug__" : Str)) = false := by decide)
    (hpl2 : ((backTo pos (starEach [] X.env)).any (·.1) || (backToKw pos (keywordEach kws X.env)).any (·.1.isNone)) = false := by rfl) :
    PE X (.Call (.Name x p) [] kws pos) (tCallK0 sp perm E ps.length tk) := by
  refine ⟨fun pins s σ H Q I h => ?_⟩
  refine wpAny_Call_Name_kw (ld_glob I hg hm ?_ hdb)
  refine PySem.W.callWith_KW0 (h₀ := X.base) I.ok.mod.kin hk hall (thn (hkw.run pos pins s σ H _ I h) fun ws s2 ⟨zs, H2, I2, rz, hl, q2⟩ => ⟨I2.kIn, ?_⟩) hpl2
  rw [hks]
  have r2 := vals_perm rz perm
  refine wpAny_call (codeAny_mono (F.run X.A X.stack s2 H2 ⟨[], ks.zip ws⟩ (permL .none perm ws) (permL .non perm zs) Q E hr I2.env0 (hb.to s2 ws (by rw [← rz.length]; exact hl)) r2 q2) fun r s' hq => ?_)
  cases r with
  | error e => exact hx pins σ H2 s2 e s' I2 hq
  | ok fl =>
    cases fl with
    | ret u => exact I2.after hq
    | next => exact False.elim hq
    | brk => exact False.elim hq
    | cont => exact False.elim hq
theorem PK.imp {X : Cx} {e : List Keyword} {t t' : TA} (h : PK X e t) (q : ∀ σ H Q, t' σ H Q → t σ H Q) : PK X e t' := ⟨fun pos pins s σ H Q I w => h.run pos pins s σ H Q I (q _ _ _ w)⟩
def DK (X : Cx) (c : Cfg) (kws : List Keyword) (bs : List (Option Nat)) (M : List Nat) (g : GA) : Prop := PK X kws (tA X.K c bs M g)
theorem dk_nil : DK X c [] [] [] gNil := by
  refine PK.imp pk_nil fun σ H Q w => ?_
  obtain ⟨A, F, ρ, ds, ρ', S, eg, k⟩ := w
  cases eg
  exact k [] A F H S Nxt.refl trivial
theorem dk_cons {nm : Option Str} {kpos : Pos} {bs : List (Option Nat)} {g : GA} (ha : DE X c a 0 [] Ma ga) (hr : DK X c kws bs M g) : DK X c (⟨nm, a, kpos⟩ :: kws) (none :: bs) (Ma ++ M) (gCons ga g) := by
  refine PK.imp (pk_cons ha hr) fun σ H Q w => ?_
  obtain ⟨A, F, ρ, ds, ρ', S, eg, k⟩ := w
  obtain ⟨⟨x, ρ1⟩, e1, eg⟩ := Option.bind_eq_some_iff.mp eg
  obtain ⟨⟨xs, ρ2⟩, e2, eg⟩ := Option.map_eq_some_iff.mp eg
  cases eg
  refine ⟨A, F, ρ, x, ρ1, S, e1, fun v A1 F1 H1 S1 N1 r1 => ?_⟩
  refine ⟨A1, F1, ρ1, xs, ρ2, S1, e2, fun vs A2 F2 H2 S2 N2 r2 => ?_⟩
  exact k (v :: vs) A2 F2 H2 S2 (N1.trans N2) ⟨Dp.ex N2.exF _ _ r1.froz0, r2⟩
def gCallK (perm : List Nat) (m : List D → Option (D × List D)) (g : GA) : GE := fun ρ => (g ρ).bind fun p => if p.1.length = perm.length then (m (permL .none perm p.1)).map fun r => (r.1, p.2) else none
theorem argsOk_froz {K : Fr} {F : Hp} {σ : L2.St} : ∀ {vs : List V} {ds : List D}, DpAll K F vs ds → ArgsOk K F σ (ds.map fun _ => none) vs ds
  | [], [], _ => trivial
  | v :: vs, d :: ds, h => by
    cases h with
    | cons h1 h2 => exact ⟨h1, argsOk_froz h2⟩
  | [], d :: ds, h => by cases h
  | v :: vs, [], h => by cases h
theorem okB_none {c c0 : Cfg} : ∀ {np k : Nat}, (∀ i, i < np → c0.dep (k + i) = 0) → okB c c0 k (List.replicate np none) = true
  | 0, k, h => rfl
  | np + 1, k, h => by
    rw [List.replicate_succ]
    simp only [okB, Bool.and_eq_true, beq_iff_eq]
    refine ⟨h 0 (by omega), okB_none fun i hi => ?_⟩
    have := h (i + 1) (by omega)
    have e : k + 1 + i = k + (i + 1) := by omega
    rw [e]
    exact this
theorem map_none : ∀ {ds : List D}, (ds.map fun _ => (none : Option Nat)) = List.replicate ds.length none
  | [] => rfl
  | d :: ds => by rw [List.map_cons, map_none, List.length_cons, List.replicate_succ]
theorem de_callK0 {x : Str} {k : Nat} {f : Addr} {fd : FuncData} {ps ks : List Str} {perm : List Nat} {np : Nat} {m : List D → Option (D × List D)} {bs : List (Option Nat)} {g : GA}
    (F : FnOk X.prog X.w X.K X.mg X.base CX0 k f fd ps (spD X.K c0 np n m)) (hr : Room k X.A) (hm : X.mg x = some (.ref f)) (hk : PySem.W.keepIn X.K (.ref f) = true) (hb : KB0 X.K fd ps ks perm) (ha : DK X c kws bs M g)
    (hbs : bs.all (·.isNone) = true := by rfl) (hnp : perm.length = np := by rfl) (hps : perm.length = ps.length := by rfl) (hd : ∀ i, i < np → c0.dep (0 + i) = 0 := by decide) (hg : Gl X x := by rfl)
    (hall : (backToKw pos (keywordEach kws X.env)).all (·.1.isSome) = true := by rfl) (hks : (backToKw pos (keywordEach kws X.env)).filterMap (·.1) = ks := by rfl)
    (hdb : (x == ("__debug__" : Str)) = false := by decide)
    (hpl2 : ((backTo pos (starEach [] X.env)).any (·.1) || (backToKw pos (keywordEach kws X.env)).any (·.1.isNone)) = false := by rfl) :
    DE X c (.Call (.Name x p) [] kws pos) n [] M (gCallK perm m g) := by
  refine PE.imp (pe_callK0 F hr hg hm hk hb pass0 hps ha hall hks hdb hpl2) fun σ H Q w => ?_
  obtain ⟨A, F0, ρ, d, ρ', S, eg, kk⟩ := w
  obtain ⟨⟨ds, ρ1⟩, e1, eg⟩ := Option.bind_eq_some_iff.mp eg
  split at eg
  · rename_i hl
    obtain ⟨⟨r, fin⟩, e3, eg⟩ := Option.map_eq_some_iff.mp eg
    cases eg
    refine ⟨A, F0, ρ, ds, ρ1, S, e1, fun vs A1 F1 H1 S1 N1 r1 => ?_⟩
    have hdp := args_froz r1 hbs
    refine ⟨?_, ?_⟩
    · rw [dpAll_len hdp, ← hps]
      exact hl
    · have hp := dpAll_perm hdp perm
      have hlen : (permL .none perm ds).length = np := by rw [permL_len]; exact hnp
      have hn : ((permL (.none : D) perm ds).map fun _ => (none : Option Nat)) = List.replicate np none := by rw [map_none, hlen]
      refine call_read (bs := List.replicate np none) (okB_none hd) ?_ (by simp) S1 N1 (hn ▸ argsOk_froz hp) (fillB_none ?_ ?_) e3 fun v A' F' H' S' N' R => ?_
      · have : bsL (List.replicate np none) = [] := by
          unfold bsL
          induction np with
          | zero => rfl
          | succ n ih => simp [List.replicate_succ]
        rw [this]
        exact List.nodup_nil
      · simp
      · simp [hlen]
      · have hb0 : bsL (List.replicate np none) = [] := by
          unfold bsL
          induction np with
          | zero => rfl
          | succ n ih => simp [List.replicate_succ]
        rw [hb0, List.append_nil] at N'
        rw [putB_none (by simp)] at S'
        exact kk v A' F' H' S' N' R
  · cases eg
end
/-! ### len(set(..)) of whole numbers -/
def ddp : List Int → List Int
  | [] => []
  | x :: r => if x ∈ r then ddp r else x :: ddp r
theorem mem_ddp {k : Int} : ∀ {l : List Int}, k ∈ ddp l ↔ k ∈ l
  | [] => Iff.rfl
  | x :: r => by
    unfold ddp
    split
    · rename_i h
      rw [mem_ddp, List.mem_cons]
      constructor
      · exact Or.inr
      · rintro (rfl | h2)
        · exact h
        · exact h2
    · rw [List.mem_cons, List.mem_cons, mem_ddp]
theorem nodup_ddp : ∀ (l : List Int), (ddp l).Nodup
  | [] => List.nodup_nil
  | x :: r => by
    unfold ddp
    split
    · exact nodup_ddp r
    · rename_i h
      exact List.nodup_cons.mpr ⟨fun z => h (mem_ddp.mp z), nodup_ddp r⟩
theorem ddp_nodup : ∀ {l : List Int}, l.Nodup → ddp l = l
  | [], _ => rfl
  | x :: r, h => by
    obtain ⟨h1, h2⟩ := List.nodup_cons.mp h
    unfold ddp
    rw [if_neg h1, ddp_nodup h2]
theorem len_le_of_sub : ∀ {l m : List Int}, l.Nodup → (∀ x ∈ l, x ∈ m) → l.length ≤ m.length
  | [], m, _, _ => Nat.zero_le _
  | x :: l, m, h, s => by
    obtain ⟨h1, h2⟩ := List.nodup_cons.mp h
    have hx := s x List.mem_cons_self
    have := len_le_of_sub (l := l) (m := m.erase x) h2 fun y hy => (List.mem_erase_of_ne fun z => h1 (by rw [← z]; exact hy)).mpr (s y (List.mem_cons_of_mem _ hy))
    rw [List.length_erase_of_mem hx] at this
    have hp : 0 < m.length := List.length_pos_of_mem hx
    simp only [List.length_cons]
    omega
theorem len_eq_of_mem {l m : List Int} (hl : l.Nodup) (hm : m.Nodup) (h : ∀ x, x ∈ l ↔ x ∈ m) : l.length = m.length :=
  Nat.le_antisymm (len_le_of_sub hl fun x hx => (h x).mp hx) (len_le_of_sub hm fun x hx => (h x).mpr hx)
def lenSetD : D → Option D
  | .tuple ds => (intsOf ds).bind fun ns => if ns.length ≤ 4000 then some (.int (ddp ns).length) else none
  | .list ds => (intsOf ds).bind fun ns => if ns.length ≤ 4000 ∧ ns.Nodup then some (.int ns.length) else none
  | _ => none
def tLenSetA (K : Fr) (ta : TE) : TE := fun σ H Q => ta σ H fun x H1 => (∃ (l : Addr) (ns : List Int), x = .ref l ∧ SqL K H1 l (ns.map V.int) ∧ ns.Nodup ∧ ns.length ≤ 4000 ∧ Q (.int (ns.length : Nat)) H1) ∨
  (∃ (l : Addr) (ns : List Int), x = .ref l ∧ SqT K H1 l (ns.map V.int) ∧ ns.length ≤ 4000 ∧ Q (.int ((ddp ns).length : Nat)) H1)
theorem pe_lenSetA {X : Cx} {a : Expr} {ta : TE} {p p2 q pos : Pos} (hg : Gl X "len") (hm : X.mg "len" = none) (hg2 : Gl X "set") (hm2 : X.mg "set" = none) (ha : PE X a ta) (hc : X.calm = true := by rfl)
    (na : starEach [a] X.env = (false, eval a X.env) :: starEach [] X.env := by rfl) : PE X (.Call (.Name "len" p) [.Call (.Name "set" p2) [a] [] q] [] pos) (tLenSetA X.K ta) := by
  refine ⟨fun pins s σ H Q I h => ?_⟩
  refine Call_ (ld_blt I hg hm boot_len ?_)
  refine PyProof.Rows.callWith_builtin1 (PyProof.Rows.args_cons ?_ rfl) rfl rfl
  refine Call_ (ld_blt I hg2 hm2 boot_set ?_)
  refine PyProof.Rows.callWith_type1 (PyProof.Rows.args_cons (thn (ha.run pins s σ H _ I h) fun v s1 ⟨x, H1, I1, r1, q1⟩ => PyProof.Rows.args_nil ?_) na) na rfl
  rcases q1 with ⟨l, ns, rfl, hq, hnd, hl, q1⟩ | ⟨l, ns, rfl, hq, hl, q1⟩
  · cases r1
    obtain ⟨its, r, pl, hz⟩ := I1.list hq
    have hlen : its.toArray.size = ns.length := by rw [List.size_toArray, ← r.length, List.length_map]
    refine call_set_list (I1.ok.hd hc) pl.isList (by simpa using Vals.ints r) (by rw [hlen]; unfold scanBound; omega) fun h' tk hS hk => ?_
    refine PyProof.Rows.args_nil ?_
    rw [hlen, firstMet_nodup ns hnd ns.length (Nat.le_refl _), List.take_length] at hS
    obtain ⟨o, es, ep, t, ho, hex, hd, _, _, _, hf, hn⟩ := hS
    have I2 : Inv X pins σ H1 { s1 with heap := h', toks := tk } := I1.kept fun b o e => hk b o (Heap.lt_size e) e
    exact call_len_set ho hex hd hf (by rw [hn] <;> omega) ⟨.int ns.length, H1, I2.tok _, ⟨_, by rw [hn]⟩, q1⟩
  · cases r1
    obtain ⟨its, r, pl, hz⟩ := I1.tuple hq
    refine call_set_tupI ns (I1.ok.hd hc) (show s1.heap.IsTuple l its.toArray from pl) (by simpa using Vals.ints r) (by unfold scanBound; omega) fun h' tk cnt hS hc2 hk => ?_
    refine PyProof.Rows.args_nil ?_
    obtain ⟨o, es, ep, t, ho, hex, hd, _, hnd, hmem, _, hf, hn, _, _⟩ := hS
    have hcount : cnt = (ddp ns).length := by
      have e1 : (es.toList.map keyOf).length = (ddp ns).length := len_eq_of_mem hnd (nodup_ddp ns) fun x => by
        rw [mem_ddp, ← hmem x]
        simp
      rw [← e1, ← hn]
      simp
    have I2 : Inv X pins σ H1 { s1 with heap := h', toks := tk } := I1.kept hk
    exact call_len_set ho hex hd hf (by rw [hn] <;> omega) ⟨.int (ddp ns).length, H1, I2.tok _, ⟨_, by rw [hn, hcount]⟩, q1⟩
theorem de_lenSet {X : Cx} {c : Cfg} {a : Expr} {n1 : Nat} {da Ma : List Nat} {ga : GE} {p p2 q pos : Pos} (ha : DE X c a n1 da Ma ga) (hm : X.mg "len" = none) (hm2 : X.mg "set" = none) (hn : n1 = 0 ∨ n1 = 1 := by decide) (hg : Gl X "len" := by rfl) (hg2 : Gl X "set" := by rfl) (hc : X.calm = true := by rfl)
    (na : starEach [a] X.env = (false, eval a X.env) :: starEach [] X.env := by rfl) : DE X c (.Call (.Name "len" p) [.Call (.Name "set" p2) [a] [] q] [] pos) 0 [] Ma (gUn lenSetD ga) := by
  refine PE.imp (pe_lenSetA hg hm hg2 hm2 ha hc na) fun σ H Q w => ?_
  obtain ⟨A, F, ρ, d, ρ', S, eg, k⟩ := w
  obtain ⟨x, e1, e3⟩ := gUn_some eg
  refine ⟨A, F, ρ, x, ρ', S, e1, fun vx A1 F1 H1 S1 N1 r1 => ?_⟩
  obtain ⟨B1, o1, _⟩ := r1
  have ol := o1.l (n := 1) hn
  cases x <;> simp only [lenSetD] at e3 <;> first | cases e3 | skip
  · obtain ⟨ns, h1, h2⟩ := Option.bind_eq_some_iff.mp e3
    split at h2
    · rename_i hh
      cases h2
      obtain ⟨a0, vs, rfl, s1, a1⟩ := ol.lst1 S1.ex
      rw [intsOf_dp a1 h1] at s1
      exact .inl ⟨a0, ns, rfl, s1, hh.2, hh.1, k _ A1 F1 H1 S1 N1 (Res.of_froz (.int _))⟩
    · cases h2
  · obtain ⟨ns, h1, h2⟩ := Option.bind_eq_some_iff.mp e3
    split at h2
    · rename_i hh
      cases h2
      obtain ⟨a0, vs, rfl, s1, a1⟩ := ol.tup
      rw [intsOf_dp a1 h1] at s1
      exact .inr ⟨a0, ns, rfl, SqT.of (S1.ex _ _ s1), hh, k _ A1 F1 H1 S1 N1 (Res.of_froz (.int _))⟩
    · cases h2
end DL

set_option Elab.async false
set_option linter.all false
set_option maxRecDepth 100000
set_option maxHeartbeats 4000000
namespace L2
open PySem PySem.Spec PyProof.Rows
theorem tuple_mulW0 (l : Addr) (items : Array Value) (n : Nat) (dd : Option Addr) (sl : Array (Option Value)) (x : Int) (u : Tok) (c0 : (decide (x < -(2 ^ 63)) || decide (x ≥ 2 ^ 63)) = false) (c1 : (items.isEmpty || x == 1) = false) (c2 : (decide (x ≤ 0) || items.isEmpty) = true) :
    Meets (Builtin.«tuple.__mul__» ⟨[.ref l, .int x u], []⟩) (fun _ R s => s.heap.get? l = some { cls := .type "tuple", dict := dd, data := .seq items n, slots := sl } ∧
      R (.ok (.ret (Value.ref s.heap.objs.size))) { s with heap := s.heap.push { cls := Value.type "tuple", data := Data.seq #[] }, toks := s.toks }) :=
  .of_wp fun prog w A R s h => by
    obtain ⟨hp, g, d, tk, os⟩ := s
    obtain ⟨hl, h⟩ := h
    have f1 := AutoSeq1.idx_int
    wp_walk using wpAny_loadPart' hl
    repeat (first
      | (refine wpAny_ite_false (decide_eq_false (by rw [c0]; exact Bool.false_ne_true)) ?_; wp_walk using wpAny_loadPart' hl)
      | (refine wpAny_ite_false (decide_eq_false (by rw [c1]; exact Bool.false_ne_true)) ?_; wp_walk using wpAny_loadPart' hl)
      | (refine wpAny_ite_true (decide_eq_true c2) ?_; wp_walk using wpAny_loadPart' hl)
      | (refine wpAny_ite_false (decide_eq_false (Nat.not_lt.mpr (Nat.zero_le _))) ?_; wp_walk using wpAny_loadPart' hl))
    exact ⟨_, rfl, h⟩
theorem tuple_mulW1 (l : Addr) (items : Array Value) (n : Nat) (dd : Option Addr) (sl : Array (Option Value)) (x : Int) (u : Tok) (c0 : (decide (x < -(2 ^ 63)) || decide (x ≥ 2 ^ 63)) = false) (c1 : (items.isEmpty || x == 1) = true) :
    Meets (Builtin.«tuple.__mul__» ⟨[.ref l, .int x u], []⟩) (fun _ R s => s.heap.get? l = some { cls := .type "tuple", dict := dd, data := .seq items n, slots := sl } ∧
      R (.ok (.ret (Value.ref l))) s) :=
  .of_wp fun prog w A R s h => by
    obtain ⟨hp, g, d, tk, os⟩ := s
    obtain ⟨hl, h⟩ := h
    have f1 := AutoSeq1.idx_int
    wp_walk using wpAny_loadPart' hl
    repeat (first
      | (refine wpAny_ite_false (decide_eq_false (by rw [c0]; exact Bool.false_ne_true)) ?_; wp_walk using wpAny_loadPart' hl)
      | (refine wpAny_ite_true (decide_eq_true c1) ?_; wp_walk using wpAny_loadPart' hl))
    trace_state
    exact ⟨_, rfl, h⟩
end L2

set_option Elab.async false
set_option linter.all false
set_option maxRecDepth 100000
set_option maxHeartbeats 4000000
namespace DL
open PySem L2 PyProof.Rows
def rRepT2 (K : Fr) : R2 := fun x y H Q => ∃ l k xs, x = .ref l ∧ y = .int k ∧ SqT K H l xs ∧ xs ≠ [] ∧ 0 ≤ k ∧ k ≤ 1000 ∧ xs.length ≤ 1000 ∧ (k = 1 → Q x H) ∧ (k ≠ 1 → ∀ p, H p = none → Q (.ref p) (upd H p (.tup (List.replicate k.toNat xs).flatten)))
theorem op_repT2 {X : Cx} : OpR X (binaryOp .Mult) (rRepT2 X.K) := by
  intro pins s σ H x y v u Q I rx ry h
  obtain ⟨l, k, xs, rfl, rfl, hT, hne, h1, h2, hz, q1, q⟩ := h
  by_cases hk : 2 ≤ k
  · exact op_repT pins s σ H _ _ v u Q I rx ry ⟨l, k, xs, rfl, rfl, hT, hne, hk, h2, hz, q (by omega)⟩
  have rx0 := rx
  cases rx
  obtain ⟨t, rfl⟩ := ry
  obtain ⟨its, r, ⟨⟨cls, dd, data, sl⟩, ho, hc, n, hd⟩, hs⟩ := I.tuple hT
  simp only at hc hd
  subst hc hd
  have hle : its.length = xs.length := r.length.symm
  have hi : its.toArray.isEmpty = false := by
    cases its with
    | nil => exact absurd (List.eq_nil_of_length_eq_zero hle.symm) hne
    | cons a b => rfl
  have c0 : (decide (k < -(2 ^ 63)) || decide (k ≥ 2 ^ 63)) = false := by
    rw [decide_eq_false (by omega), decide_eq_false (by omega)] <;> rfl
  by_cases h11 : k = 1
  · subst h11
    have c1 : (its.toArray.isEmpty || (1 : Int) == 1) = true := by
      rw [hi, Bool.false_or]
      rfl
    refine wpAny_binaryOp_repeat_ref (T := "tuple") (U := "int") (by decide) ⟨_, ho, rfl⟩ (fun s' => typeIs_int s' 1 t) noFill_tuple_mul F.fills_int_mul F.slot_int_rmul repeat_tuple F.slot_int_index.lookup
      (call_meets F.slot_int_rmul (typeIs_int s 1 t) F.entry_int_rmul (F.args_int_rmul_2 _ _) (int_rmul_tuple 1 t l its.toArray n dd sl)
        ⟨ho, rfl, ⟨_, ho, rfl⟩, call_meets F.slot_tuple_mul ⟨_, ho, rfl⟩ F.entry_tuple_mul (F.args_tuple_mul_2 _ _) (tuple_mulW1 l its.toArray n dd sl 1 t c0 c1) ⟨ho, ?_⟩⟩)
    exact ⟨.ref l, H, I, rx0, q1 rfl⟩
  · have h0 : k = 0 := by omega
    subst h0
    have c1 : (its.toArray.isEmpty || (0 : Int) == 1) = false := by
      rw [hi, Bool.false_or]
      rfl
    refine wpAny_binaryOp_repeat_ref (T := "tuple") (U := "int") (by decide) ⟨_, ho, rfl⟩ (fun s' => typeIs_int s' 0 t) noFill_tuple_mul F.fills_int_mul F.slot_int_rmul repeat_tuple F.slot_int_index.lookup
      (call_meets F.slot_int_rmul (typeIs_int s 0 t) F.entry_int_rmul (F.args_int_rmul_2 _ _) (int_rmul_tuple 0 t l its.toArray n dd sl)
        ⟨ho, rfl, ⟨_, ho, rfl⟩, call_meets F.slot_tuple_mul ⟨_, ho, rfl⟩ F.entry_tuple_mul (F.args_tuple_mul_2 _ _) (tuple_mulW0 l its.toArray n dd sl 0 t c0 c1 rfl) ⟨ho, ?_⟩⟩)
    refine ⟨.ref s.heap.objs.size, _, I.laid (t' := s.toks) (o := .tup []) (fun b ob q => Heap.get?_push_of_some _ q) (Nat.le_refl _) ?_, rfl, q (by decide) _ (I.hok.fresh (Nat.le_refl _))⟩
    exact ⟨Nat.zero_le _, _, .nil, IsTup.new _ _⟩
section
variable {X : Cx} {c : Cfg} {e a b : Expr} {es : List Expr} {n n1 n2 n3 m1 m2 : Nat} {da db Ma Mb M M2 deps : List Nat} {ga gb g : GE} {pos p : Pos} {st : Stmt} {rest : List Stmt} {f h : GS}
def gRepT (g : GA) (gb : GE) : GE := fun ρ => (g ρ).bind fun p => (gb p.2).bind fun q => (asI q.1).bind fun k => if p.1.length ≤ 100 ∧ p.1.length ≠ 0 ∧ 0 ≤ k ∧ k ≤ 1000 then some (.tuple (List.replicate k.toNat p.1).flatten, q.2) else none
theorem de_repT {bs : List (Option Nat)} {g : GA} {x1 : _} {p1 : Pos} (h : DA X c es bs M g) (hk : DE X c b 0 db Mb gb) (hb : bs.all (·.isNone) = true := by rfl) : DE X c (.BinOp (.Tuple es x1 p1) .Mult b pos) 0 [] (M ++ Mb) (gRepT g gb) := by
  refine PE.imp (pe_op op_repT2 (pe_tup h) hk) fun σ H Q w => ?_
  obtain ⟨A, F, ρ, d, ρ', S, eg, k⟩ := w
  obtain ⟨⟨xs, ρ1⟩, e1, eg⟩ := Option.bind_eq_some_iff.mp eg
  obtain ⟨⟨y, ρ2⟩, e2, eg⟩ := Option.bind_eq_some_iff.mp eg
  obtain ⟨j, e3, eg⟩ := Option.bind_eq_some_iff.mp eg
  have e3 := asI_some e3
  split at eg
  · rename_i hl
    cases eg
    subst e3
    refine ⟨A, F, ρ, xs, ρ1, S, e1, fun vs A1 F1 H1 S1 N1 r1 => ?_⟩
    have hd := args_froz r1 hb
    have hlv := dpAll_len hd
    have hl1 : xs.length ≤ 100 := hl.1
    have hl0 : xs.length ≠ 0 := hl.2.1
    refine ⟨lim_ok (by rw [hlv]; have : lim = 1000000 := rfl; omega), fun p hp => ?_⟩
    have gr := Gr.newTup (o := .tup vs) S1.ex hp
    have S2 := S1.grown gr
    have N2 : Nxt M A F H A1 (upd F1 p (.tup vs)) (upd H1 p (.tup vs)) := by simpa using N1.trans (Nxt.grown gr fun i a ha => (S1.cell ha).1)
    refine ⟨A1, _, ρ1, _, ρ2, S2, e2, fun v A3 F3 H3 S3 N3 r3 => ?_⟩
    have hf := r3.froz0
    cases hf
    have h3F : F3 p = some (.tup vs) := N3.exF _ _ upd_same
    have h3 : H3 p = some (.tup vs) := S3.ex _ _ h3F
    have hd3 := Dp.exAll (gr.exF.trans N3.exF) _ _ hd
    have hjj : 0 ≤ j ∧ j ≤ 1000 := hl.2.2
    refine ⟨p, j, vs, rfl, rfl, SqT.of h3, fun z => by rw [z] at hlv; simp at hlv; omega, hjj.1, hjj.2, by omega, fun z => ?_, fun _ q hq => KQ.tup (n := 0) (fin_op S3 (N2.trans N3) k) S3.ex (dpAll_rep hd3 _) hq⟩
    subst z
    refine k _ A3 F3 H3 S3 (N2.trans N3) (Res.of_froz (.tup h3F ?_))
    simpa using hd3
  · cases eg
/-! ### what a slot owns is changed as a whole -/
theorem slot_put {K : Fr} {A : Nat → List Addr} {ρ : Env} {F H H' : Hp} {σ : L2.St} (S : StOk K c A ρ F σ H) {i : Nat} {v : V} {d d' : D} {B : List Addr} (hr : ρ[i]? = some (some d)) (hs : σ[i]? = some (some v)) (hB : ∀ a ∈ B, a ∈ A i)
    (ho : Own K F H' (c.dep i) v d' B) (hout : ∀ a, a ∉ A i → H' a = H a) (hin : ∀ a ∈ A i, H' a ≠ none) :
    StOk K c (updA A i B) (ρ.set i (some d')) F σ H' ∧ Nxt [i] A F H (updA A i B) F H' := by
  have hi : i < ρ.length := (List.getElem?_eq_some_iff.mp hr).1
  refine ⟨⟨fun b o q => ?_, by simpa using S.len, fun j d2 ej => ?_, fun j hj => ?_, fun j l hjl a ha => ?_⟩, ⟨Ex.refl _, fun b hb => ?_, fun b o hb hn => ⟨?_, fun j => ?_, fun z => z⟩, fun j hj => ?_, fun j b hb => ?_⟩⟩
  · have hb : b ∉ A i := fun z => by
      rw [(S.cell z).2] at q
      cases q
    rw [hout b hb]
    exact S.ex b o q
  · by_cases hji : j = i
    · subst hji
      rw [List.getElem?_set_self hi] at ej
      cases ej
      exact ⟨v, hs, by rw [updA_same]; exact ho⟩
    · rw [List.getElem?_set_ne (Ne.symm hji)] at ej
      obtain ⟨w, h1, h2⟩ := S.own j d2 ej
      rw [updA_ne hji]
      exact ⟨w, h1, h2.later (Ex.refl _) fun b hb => ⟨hout b fun z => S.dis j i hji b hb z, (h2.cells b hb).2⟩⟩
  · by_cases hji : j = i
    · subst hji
      exact absurd (List.getElem?_set_self hi) (hj _)
    · rw [updA_ne hji]
      exact S.no j fun d' e => hj d' (by rw [List.getElem?_set_ne (Ne.symm hji)]; exact e)
  · by_cases hji : j = i
    · subst hji
      rw [updA_same] at ha
      rw [updA_ne (Ne.symm hjl)]
      exact S.dis j l hjl a (hB a ha)
    · rw [updA_ne hji] at ha
      by_cases hli : l = i
      · subst hli
        rw [updA_same]
        exact fun z => S.dis j l hjl a ha (hB a z)
      · rw [updA_ne hli]
        exact S.dis j l hjl a ha
  · by_cases hz : b ∈ A i
    · exact hin b hz
    · rw [hout b hz]
      exact hb
  · rw [hout b (hn i)]
    exact hb
  · by_cases hji : j = i
    · subst hji
      rw [updA_same]
      exact fun z => hn j (hB b z)
    · rw [updA_ne hji]
      exact hn j
  · have hji : j ≠ i := fun z => hj (by simp [z])
    rw [updA_ne hji]
    exact ⟨rfl, fun b hb => hout b fun z => S.dis j i hji b hb z⟩
  · by_cases hji : j = i
    · subst hji
      rw [updA_same] at hb
      exact .inl ⟨j, hB b hb⟩
    · rw [updA_ne hji] at hb
      exact .inl ⟨j, hb⟩
/-! ### a list of things of one's own -/
theorem own_cell2 {K : Fr} {A : Nat → List Addr} {ρ : Env} {F H : Hp} {σ : L2.St} {m : Nat} (S : StOk K c A ρ F σ H) {i : Nat} {ds : List D} (e : ρ[i]? = some (some (.list ds))) (hd : c.dep i = m + 1) :
    ∃ a vs B, σ[i]? = some (some (.ref a)) ∧ A i = a :: B ∧ H a = some (.lst vs) ∧ F a = none ∧ a ∉ B ∧ AllN (Own K F H m) vs ds B := by
  obtain ⟨v, h1, h2⟩ := S.own i _ e
  rw [hd] at h2
  unfold Own at h2
  rcases h2 with ⟨_, _, z⟩ | ⟨p, vs, ds', B', e1, e2, e3, q1, q2, q3, q4⟩ | ⟨_, _, _, _, _, z, _⟩ | ⟨_, _, _, _, _, z, _⟩
  · cases z
  · cases e2
    subst e1
    exact ⟨p, vs, B', h1, e3, q1, q2, q3, q4⟩
  · cases z
  · cases z
theorem allN_set {P : V → D → List Addr → Prop} {v : V} {x : D} (hx : P v x []) : ∀ {vs : List V} {ds : List D} {B : List Addr} (j : Nat), AllN P vs ds B → ∃ B', AllN P (vs.set j v) (ds.set j x) B' ∧ ∀ a ∈ B', a ∈ B
  | _, _, _, j, .nil => ⟨[], .nil, fun a h => h⟩
  | _, _, _, 0, .cons (B := B) h1 h2 h3 => ⟨B, by simpa using AllN.cons hx h2 (fun a ha => by simp at ha), fun a ha => List.mem_append_right _ ha⟩
  | _, _, _, j + 1, .cons (A := C) h1 h2 h3 => by
    obtain ⟨B', q1, q2⟩ := allN_set hx j h2
    exact ⟨C ++ B', .cons h1 q1 fun a ha z => h3 a ha (q2 a z), fun a ha => (List.mem_append.mp ha).elim (fun z => List.mem_append_left _ z) fun z => List.mem_append_right _ (q2 a z)⟩
/-- an inner list is changed -/
theorem allN_inner {K : Fr} {F H : Hp} : ∀ {vs : List V} {ds : List D} {B : List Addr} {j : Nat} {es : List D}, AllN (Own K F H 1) vs ds B → ds[j]? = some (.list es) →
    ∃ b ws, vs[j]? = some (.ref b) ∧ b ∈ B ∧ H b = some (.lst ws) ∧ DpAll K F ws es ∧ ∀ ws' es', DpAll K F ws' es' → AllN (Own K F (upd H b (.lst ws')) 1) vs (ds.set j (.list es')) B
  | _, _, _, _, _, .nil, e => by simp at e
  | _, _, _, 0, es, .cons (B := B) h1 h2 h3, e => by
    simp at e
    subst e
    have h1' := h1
    unfold Own at h1
    rcases h1 with ⟨_, _, z⟩ | ⟨p, vs, ds', B', rfl, e2, rfl, q1, q2, q3, q4⟩ | ⟨_, _, _, _, _, z, _⟩ | ⟨_, _, _, _, _, z, _⟩
    · cases z
    · cases e2
      obtain ⟨w1, rfl⟩ := allN_zero q4
      refine ⟨p, vs, by simp, by simp, q1, w1, fun ws' es' hw => ?_⟩
      have hp : p ∉ B := h3 p (by simp)
      refine AllN.cons (Own.lst upd_same q2 (by simp) (allN_of_dp hw)) (AllN.imp h2 fun v d A hA hP => hP.later (Ex.refl _) fun a ha => ⟨upd_ne fun z => hp (by rw [← z]; exact hA a ha), (hP.cells a ha).2⟩) h3
    · cases z
    · cases z
  | _, _, _, j + 1, es, .cons (A := C) (B := B) h1 h2 h3, e => by
    obtain ⟨b, ws, q1, q2, q3, q4, q5⟩ := allN_inner (j := j) (es := es) h2 (by simpa using e)
    refine ⟨b, ws, by simpa using q1, List.mem_append_right _ q2, q3, q4, fun ws' es' hw => ?_⟩
    rw [List.set_cons_succ]
    exact AllN.cons (h1.later (Ex.refl _) fun a ha => ⟨upd_ne fun z => h3 a ha (by rw [z]; exact q2), (h1.cells a ha).2⟩) (q5 ws' es' hw) h3
/-- what is no list, out of a list of lists -/
def gFlat (g : GE) : GE := fun ρ => (g ρ).bind fun p => if isLD p.1 = true then none else some p
theorem de_flat (h : DE X c e 1 deps M g) : DE X c e 0 [] M (gFlat g) := by
  refine PE.imp h fun σ H Q w => ?_
  obtain ⟨A, F, ρ, d, ρ', S, eg, k⟩ := w
  obtain ⟨⟨x, ρ1⟩, e1, eg⟩ := Option.bind_eq_some_iff.mp eg
  split at eg
  · cases eg
  · rename_i hl
    cases eg
    refine ⟨A, F, ρ, _, _, S, e1, fun v A1 F1 H1 S1 N1 r1 => k v A1 F1 H1 S1 N1 ?_⟩
    obtain ⟨B, ho, _⟩ := r1
    have := (OwnL.flat (n := 1) (.inr ho) (by simpa using hl)).1
    exact Res.of_froz this
/-- xs[k] = e, e no list, in a list of lists -/
def sSetIx2 (i : Nat) (gi ge : GE) : GS := fun ρ => (getL i ρ).bind fun _ => (ge ρ).bind fun p => (gi p.2).bind fun q => (asI q.1).bind fun j => (getL i q.2).bind fun ds => (ixN ds.length j).bind fun m => if isLD p.1 = true then none else some (.nx (q.2.set i (some (.list (ds.set m p.1)))))
theorem ds_setIx2 {i : Nat} {ix : Expr} {tpos : Pos} {Mi Me : List Nat} {gi ge : GE} (hv : PE X a (tVar i)) (hi : DE X c ix 0 [] Mi gi) (he : DE X c e 0 [] Me ge) (hd : c.dep i = 2 := by rfl)
    (ha : ∀ v, assign (.Subscript a ix tpos) X.env v = (do
      let ov ← holding [v] (eval a X.env)
      let iv ← holding [v, ov] (eval ix X.env)
      standAt tpos
      holding [v, ov, iv] (setItem ov iv v)
      release [v, ov, iv] []) := by intro _; rfl) (hs : swapsWithSole [.Subscript a ix tpos] e pos.line X.env = pure false := by rfl) (hw : swappedStores [.Subscript a ix tpos] e X.env = pure none := by rfl)
    (h1 : (assignEach [.Subscript a ix tpos] X.env).map (·.2) = [assign (.Subscript a ix tpos) X.env] := by rfl) : DS X c n (.Assign [.Subscript a ix tpos] e pos) ((Me ++ Mi) ++ [i]) (sSetIx2 i gi ge) := by
  refine PS.imp (ps_asg he (pg_sub hv hi set_list ha) hs hw h1) fun Ds σ H w => ?_
  obtain ⟨A, F, ρ, o, S, eg, k⟩ := w
  obtain ⟨ds0, e0, eg⟩ := Option.bind_eq_some_iff.mp eg
  obtain ⟨⟨x, ρ1⟩, e1, eg⟩ := Option.bind_eq_some_iff.mp eg
  obtain ⟨⟨y, ρ2⟩, e2, eg⟩ := Option.bind_eq_some_iff.mp eg
  obtain ⟨j, ej, eg⟩ := Option.bind_eq_some_iff.mp eg
  obtain ⟨ds, e3, eg⟩ := Option.bind_eq_some_iff.mp eg
  obtain ⟨m, e4, eg⟩ := Option.bind_eq_some_iff.mp eg
  have e0 := getL_some e0
  have e3 := getL_some e3
  obtain rfl := asI_some ej
  split at eg
  · cases eg
  rename_i hl
  cases eg
  obtain ⟨a0, vs0, B0, s0, _, h0, _, _, _⟩ := own_cell2 (m := 1) S e0 hd
  refine ⟨A, F, ρ, x, ρ1, S, e1, fun v A1 F1 H1 S1 N1 r1 => ?_⟩
  refine ⟨_, s0, A1, F1, ρ1, _, ρ2, S1, e2, fun u A2 F2 H2 S2 N2 r2 => ?_⟩
  have hf := r2.froz0
  cases hf
  obtain ⟨a1, vs1, B1, s1, hA1, h1', hF1, hn1, al1⟩ := own_cell2 (m := 1) S2 e3 hd
  rw [s0] at s1
  cases s1
  have hx : Own X.K F2 H2 1 v x [] := Own.froz (Dp.ex N2.exF _ _ r1.froz0) (by simpa using hl)
  obtain ⟨B', q1, q2⟩ := allN_set hx m al1
  have ho : Own X.K F2 (upd H2 a0 (.lst (vs1.set m v))) (c.dep i) (.ref a0) (.list (ds.set m x)) (a0 :: B') := by
    rw [hd]
    refine Own.lst upd_same hF1 (fun z => hn1 (q2 _ z)) (AllN.imp q1 fun w d C hC hP => hP.later (Ex.refl _) fun b hb => ⟨upd_ne fun z => hn1 (q2 _ (by rw [← z]; exact hC b hb)), (hP.cells b hb).2⟩)
  obtain ⟨S3, N3⟩ := slot_put S2 e3 s0 (B := a0 :: B') (fun b hb => by
    rw [hA1]
    rcases List.mem_cons.mp hb with z | z
    · rw [z]; simp
    · exact List.mem_cons_of_mem _ (q2 b z)) ho (fun b hb => upd_ne fun z => hb (by rw [hA1, z]; simp)) (fun b hb => by
    by_cases hz : b = a0
    · rw [hz, upd_same]; simp
    · rw [upd_ne hz]; exact (S2.cell hb).1)
  exact ⟨a0, vs1, j, m, rfl, rfl, h1', by rw [al1.len]; exact e4, k σ _ F2 _ S3 ((N1.trans N2).trans N3) SameB.refl⟩
end
end DL

set_option Elab.async false
set_option linter.all false
set_option maxRecDepth 100000
set_option maxHeartbeats 4000000
namespace DL
open PySem L2 PyProof.Rows
theorem allN_keep {K : Fr} {m : Nat} {A A' : Nat → List Addr} {F H F' H' : Hp} {M : List Nat} (N : Nxt M A F H A' F' H') {vs : List V} {ds : List D} {B : List Addr} (h : AllN (Own K F H m) vs ds B) (hB : ∀ a ∈ B, ∀ j, a ∉ A j) :
    AllN (Own K F' H' m) vs ds B ∧ (∀ a ∈ B, ∀ j, a ∉ A' j) ∧ ∀ a ∈ B, H a ≠ none := by
  have hc : ∀ a ∈ B, H a ≠ none ∧ F a = none := AllN.sub h fun v d C q => q.cells
  have hk : ∀ a ∈ B, (H' a = H a ∧ F' a = none) ∧ ∀ j, a ∉ A' j := fun a ha => by
    obtain ⟨h1, h2⟩ := hc a ha
    cases q : H a with
    | none => exact absurd q h1
    | some o =>
      obtain ⟨k1, k2, k3⟩ := N.keep a o q (hB a ha)
      exact ⟨⟨k1, k3 h2⟩, k2⟩
  exact ⟨AllN.imp h fun v d C hC hP => hP.later N.exF fun a ha => (hk a (hC a ha)).1, fun a ha => (hk a ha).2, fun a ha => (hc a ha).1⟩
section
variable {X : Cx} {c : Cfg} {e a b tg elt iter : Expr} {ifs : List Expr} {es : List Expr} {n n1 n2 n3 m1 m2 : Nat} {da db Ma Mb M M2 Mc Me deps W : List Nat} {ga gb g : GE} {pos p : Pos} {st : Stmt} {rest : List Stmt} {f h : GS}
def getLD : Option D → Option (List D)
  | some (.list ds) => some ds
  | _ => none
theorem getLD_some {o : Option D} {ds : List D} (h : getLD o = some ds) : o = some (.list ds) := by
  unfold getLD at h
  split at h
  · cases h; rfl
  · cases h
/-- xs[k].append(e), in a list of lists -/
def gApp2 (i : Nat) (gi g : GE) : GE := fun ρ => (getL i ρ).bind fun _ => (gi ρ).bind fun q => (asI q.1).bind fun j => (getL i q.2).bind fun ds0 => (ixN ds0.length j).bind fun m => (getLD ds0[m]?).bind fun _ => (g q.2).bind fun p => (getL i p.2).bind fun ds => if ds.length = ds0.length then (getLD ds[m]?).bind fun es =>
  if es.length ≤ lim then some (.none, p.2.set i (some (.list (ds.set m (.list (es ++ [p.1])))))) else none else none
theorem de_app2 {i : Nat} {ix : Expr} {gi : GE} {Mi : List Nat} {apos spos : Pos} (hv : PE X a (tVar i)) (hix : DE X c ix 0 [] Mi gi) (he : DE X c e 0 [] M g) (hd : c.dep i = 2 := by rfl) (hiM : i ∉ M := by decide) (hp : PlainIx ix := by exact fun _ _ => rfl)
    (hbase : attributeBase (.Subscript a ix spos) "append" X.env (eval (.Subscript a ix spos) X.env) = eval (.Subscript a ix spos) X.env := by rfl)
    (hfew : ((backTo pos (starEach (e :: []) X.env)).all (fun x => !x.1) && (backToKw pos (keywordEach [] X.env)).all (fun x => x.1.isSome)
      && decide ((e :: ([] : List Expr)).length + ([] : List Keyword).length + (if ([] : List Keyword).isEmpty then 0 else 1) < 30)) = true := by rfl)
    (hline : (apos.endLine == pos.line) = true := by rfl) (hs : starEach (e :: []) X.env = (false, eval e X.env) :: starEach [] X.env := by rfl) (hplain : (backTo pos (starEach [] X.env)).any (·.1) = false := by rfl) :
    DE X c (.Call (.Attribute (.Subscript a ix spos) "append" apos) [e] [] pos) 0 [] ((Mi ++ M) ++ [i]) (gApp2 i gi g) := by
  refine PE.imp (pe_bm PySem.F.plainAttrs_list PySem.F.slot_list_append PySem.F.type_list_append mt_append (pe_ix ix_list hv hix hp) (pa_cons he pa_nil hs) hbase hfew hline hs hplain) fun σ H Q w => ?_
  obtain ⟨A, F, ρ, d, ρ', S, eg, k⟩ := w
  obtain ⟨dsx, ex, eg⟩ := Option.bind_eq_some_iff.mp eg
  obtain ⟨⟨y, ρ1⟩, e1, eg⟩ := Option.bind_eq_some_iff.mp eg
  obtain ⟨j, ej, eg⟩ := Option.bind_eq_some_iff.mp eg
  obtain ⟨ds0, e0, eg⟩ := Option.bind_eq_some_iff.mp eg
  obtain ⟨m, em, eg⟩ := Option.bind_eq_some_iff.mp eg
  obtain ⟨es0, eo, eg⟩ := Option.bind_eq_some_iff.mp eg
  obtain ⟨⟨x, ρ2⟩, e2, eg⟩ := Option.bind_eq_some_iff.mp eg
  obtain ⟨ds, e3, eg⟩ := Option.bind_eq_some_iff.mp eg
  split at eg
  case isFalse => cases eg
  rename_i hll
  obtain ⟨es1, e4, eg⟩ := Option.bind_eq_some_iff.mp eg
  split at eg
  case isFalse => cases eg
  rename_i hl
  cases eg
  have ex := getL_some ex
  have e0 := getL_some e0
  have e3 := getL_some e3
  have eo := getLD_some eo
  have e4 := getLD_some e4
  obtain rfl := asI_some ej
  obtain ⟨ax, vsx, Bx, sx, _, hx, _, _, _⟩ := own_cell2 (m := 1) S ex hd
  refine ⟨_, sx, A, F, ρ, _, ρ1, S, e1, fun vy A1 F1 H1 S1 N1 r1 => ?_⟩
  have hf := r1.froz0
  cases hf
  obtain ⟨a0, vs0, B0, s0, hA0, h0, hF0, hn0, al0⟩ := own_cell2 (m := 1) S1 e0 hd
  rw [sx] at s0
  cases s0
  obtain ⟨b0, ws0, g1, g2, g3, g4, g5⟩ := allN_inner al0 eo
  refine ⟨ax, vs0, j, .ref b0, rfl, rfl, .inl (.inl h0), ?_, ?_⟩
  · have em : ixN ds0.length j = some m := em
    unfold atI
    rw [al0.len, em]
    exact g1
  refine ⟨.inl ⟨rfl, ws0, .inl (.inl g3)⟩, A1, F1, ρ1, x, ρ2, S1, e2, fun v A2 F2 H2 S2 N2 r2 => ?_⟩
  obtain ⟨a1, vs1, B1, s1, hA1, h1, hF1, hn1, al1⟩ := own_cell2 (m := 1) S2 e3 hd
  rw [sx] at s1
  cases s1
  obtain ⟨o1, o2⟩ := N2.own i hiM
  have hva : vs1 = vs0 := by
    have := o2 ax (by rw [hA0]; simp)
    rw [h1, h0] at this
    cases this
    rfl
  subst hva
  obtain ⟨b1, ws1, k1, k2, k3, k4, k5⟩ := allN_inner al1 e4
  rw [g1] at k1
  cases k1
  have hw := k5 (ws1 ++ [v]) (es1 ++ [x]) (dpAll_append k4 (.cons r2.froz0 .nil))
  have ho : Own X.K F2 (upd H2 b0 (.lst (ws1 ++ [v]))) (c.dep i) (.ref ax) (.list (ds.set m (.list (es1 ++ [x])))) (ax :: B1) := by
    rw [hd]
    exact Own.lst (by rw [upd_ne fun z => hn1 (by rw [z]; exact k2)]; exact h1) hF1 hn1 hw
  obtain ⟨S3, N3⟩ := slot_put S2 e3 sx (B := ax :: B1) (fun b hb => by rw [hA1]; exact hb) ho (fun b hb => upd_ne fun z => hb (by rw [hA1, z]; exact List.mem_cons_of_mem _ k2)) (fun b hb => by
    by_cases hz : b = b0
    · rw [hz, upd_same]; simp
    · rw [upd_ne hz]; exact (S2.cell hb).1)
  exact ⟨b0, ws1, v, rfl, rfl, k3, lim_lt (by rw [dpAll_len k4]; exact hl), k _ _ F2 _ S3 ((N1.trans N2).trans N3) (Res.of_froz .non)⟩
/-! ### a slot that holds what is not told -/
theorem StOk.junk {K : Fr} {A : Nat → List Addr} {ρ : Env} {F H : Hp} {σ : L2.St} (S : StOk K c A ρ F σ H) {j : Nat} {v : Option V} (hj : c.dep j = 0) : StOk K c A (ρ.set j none) F (σ.set j v) H := by
  have hA : A j = [] := dep0_nil S hj
  refine ⟨S.ex, by simpa using S.len, fun i d e => ?_, fun i hi => ?_, S.dis⟩
  · by_cases hij : i = j
    · subst hij
      rw [List.getElem?_set] at e
      simp at e
    · rw [List.getElem?_set_ne (Ne.symm hij)] at e
      obtain ⟨w, h1, h2⟩ := S.own i d e
      exact ⟨w, by rw [List.getElem?_set_ne (Ne.symm hij)]; exact h1, h2⟩
  · by_cases hij : i = j
    · rw [hij]; exact hA
    · exact S.no i fun d e => hi d (by rw [List.getElem?_set_ne (Ne.symm hij)]; exact e)
/-- y = xs[1]; xs[0] = abs(int(y.pop())) -/
def sAliasPop (i j : Nat) : GS := fun ρ => (getL i ρ).bind fun ds => (getLD ds[1]?).bind fun cs => (cs[cs.length - 1]?).bind fun x => (asI x).bind fun z =>
  if j < ρ.length then some (.nx ((ρ.set i (some (.list ((ds.set 1 (.list cs.dropLast)).set 0 (.int (if z < 0 then -z else z)))))).set j none)) else none
theorem dss_aliasPop {i j : Nat} {y : Str} {a2 : Expr} {k1 k2 : Nat} {py p1 p2 p3 p4 p5 p6 p7 p8 p9 p10 p11 p12 : Pos} (hv : PE X a (tVar i)) (hv2 : PE X a2 (tVar i)) (hb : PE X b (tVar j)) (hr : DSs X c n rest M f) (hN : X.N.Nodup)
    (hmA : X.mg "abs" = none) (hmI : X.mg "int" = none) (hji : j ≠ i := by decide) (hd : c.dep i = 2 := by rfl) (hdj : c.dep j = 0 := by rfl) (hij : j ∉ c.ino := by decide) (hx : X.N[j]? = some y := by rfl) (hl : Loc X.env.scope y := by first | exact .inl rfl | exact .inr rfl)
    (hs : swapsWith (.Subscript a (.Constant (.int 1) k1 p1) p2) (some (.Name y py)) p3.line X.env = pure false := by rfl) (hf : X.fn y = true ∨ X.env.scope.names.lookup y = some .local := by first | exact .inl rfl | exact .inr rfl)
    (hgA : Gl X "abs" := by rfl) (hgI : Gl X "int" := by rfl) (hbase : attributeBase b "pop" X.env (eval b X.env) = eval b X.env := by rfl) (hline : (p8.endLine == p9.line) = true := by rfl)
    (hsA : starEach [.Call (.Name "int" p7) [.Call (.Attribute b "pop" p8) [] [] p9] [] p10] X.env = (false, eval (.Call (.Name "int" p7) [.Call (.Attribute b "pop" p8) [] [] p9] [] p10) X.env) :: starEach [] X.env := by rfl)
    (hsI : starEach [.Call (.Attribute b "pop" p8) [] [] p9] X.env = (false, eval (.Call (.Attribute b "pop" p8) [] [] p9) X.env) :: starEach [] X.env := by rfl)
    (hplA : (backTo p11 (starEach [] X.env)).any (·.1) = false := by rfl) (hplI : (backTo p10 (starEach [] X.env)).any (·.1) = false := by rfl)
    (ha : ∀ v, assign (.Subscript a2 (.Constant (.int 0) k2 p4) p5) X.env v = (do
      let ov ← holding [v] (eval a2 X.env)
      let iv ← holding [v, ov] (eval (.Constant (.int 0) k2 p4) X.env)
      standAt p5
      holding [v, ov, iv] (setItem ov iv v)
      release [v, ov, iv] []) := by intro _; rfl) (hs2 : swapsWithSole [.Subscript a2 (.Constant (.int 0) k2 p4) p5] (.Call (.Name "abs" p6) [.Call (.Name "int" p7) [.Call (.Attribute b "pop" p8) [] [] p9] [] p10] [] p11) p12.line X.env = pure false := by rfl)
    (hw : swappedStores [.Subscript a2 (.Constant (.int 0) k2 p4) p5] (.Call (.Name "abs" p6) [.Call (.Name "int" p7) [.Call (.Attribute b "pop" p8) [] [] p9] [] p10] [] p11) X.env = pure none := by rfl)
    (h1 : (assignEach [.Subscript a2 (.Constant (.int 0) k2 p4) p5] X.env).map (·.2) = [assign (.Subscript a2 (.Constant (.int 0) k2 p4) p5) X.env] := by rfl) :
    DSs X c n (.Assign [.Name y py] (.Subscript a (.Constant (.int 1) k1 p1) p2) p3 :: .Assign [.Subscript a2 (.Constant (.int 0) k2 p4) p5] (.Call (.Name "abs" p6) [.Call (.Name "int" p7) [.Call (.Attribute b "pop" p8) [] [] p9] [] p10] [] p11) p12 :: rest) ([i] ++ M) (sSeq (sAliasPop i j) f) := by
  have q1 := ps_set (pos := p3) (pos' := py) hN hx hl (pe_ix ix_list hv (pe_int (i := 1) (j := k1) (pos := p1)) (fun _ _ => rfl)) hs hf
  have e1 := pe_bm0 (cpos := p9) (apos := p8) PySem.F.plainAttrs_list PySem.F.slot_list_pop PySem.F.type_list_pop mt_pop hb hbase hline
  have e2 := pe_callTy (pos := p10) (p := p7) (x := "int") call_int1 hgI hmI rfl (pa_cons e1 pa_nil hsI) (by decide) (by decide) hsI hplI
  have e3 := pe_callB (pos := p11) (p := p6) (x := "abs") call_abs hgA hmA rfl (pa_cons e2 pa_nil hsA) (by decide) (by decide) hsA hplA
  have q2 := ps_asg (pos := p12) e3 (pg_sub hv2 (pe_int (i := 0) (j := k2) (pos := p4)) set_list ha) hs2 hw h1
  refine PSs.imp (pss_cons q1 (pss_cons q2 hr)) fun Ds σ H w => ?_
  obtain ⟨A, F, ρ, o, S, eg, k⟩ := w
  obtain ⟨o1, eo, eg⟩ := Option.bind_eq_some_iff.mp eg
  obtain ⟨ds, ed, eo⟩ := Option.bind_eq_some_iff.mp eo
  obtain ⟨cs, ec, eo⟩ := Option.bind_eq_some_iff.mp eo
  obtain ⟨x, ex, eo⟩ := Option.bind_eq_some_iff.mp eo
  obtain ⟨z, ez, eo⟩ := Option.bind_eq_some_iff.mp eo
  obtain rfl := asI_some ez
  split at eo
  case isFalse => cases eo
  rename_i hjr
  cases eo
  have ed := getL_some ed
  have ec := getLD_some ec
  obtain ⟨a0, vs0, B0, s0, hA0, h0, hF0, hn0, al0⟩ := own_cell2 (m := 1) S ed hd
  obtain ⟨b0, ws0, g1, g2, g3, g4, g5⟩ := allN_inner al0 ec
  obtain ⟨vx, g6, g7⟩ := dpAll_get g4 ex
  cases g7
  have hlen := al0.len
  have hds : 1 < ds.length := (List.getElem?_eq_some_iff.mp ec).1
  have hb0a : b0 ≠ a0 := fun z => hn0 (by rw [← z]; exact g2)
  have hat : atI vs0 1 = some (V.ref b0) := by
    unfold atI ixN
    rw [if_pos (by omega), if_pos (by omega)]
    exact g1
  refine ⟨.ref a0, s0, a0, vs0, 1, .ref b0, rfl, rfl, .inl (.inl h0), hat, ?_⟩
  have hi1 : i < σ.length := (List.getElem?_eq_some_iff.mp s0).1
  have sN : X.N.length = X.N.length := rfl
  have hj2 : j < σ.length := by rw [← S.len]; exact hjr
  have sj : (σ.set j (some (V.ref b0)))[j]? = some (some (V.ref b0)) := List.getElem?_set_self hj2
  have si : (σ.set j (some (V.ref b0)))[i]? = some (some (V.ref a0)) := by rw [List.getElem?_set_ne hji]; exact s0
  refine ⟨.ref b0, sj, .inl ⟨rfl, ws0, .inl (.inl g3)⟩, b0, ws0, .int z, rfl, rfl, g3, by rw [dpAll_len g4]; exact g6, ?_⟩
  refine .inl ⟨z, rfl, ?_⟩
  refine ⟨z, rfl, ?_⟩
  have h0' : upd H b0 (.lst ws0.dropLast) a0 = some (.lst vs0) := by rw [upd_ne (Ne.symm hb0a)]; exact h0
  refine ⟨.ref a0, si, a0, vs0, 0, 0, rfl, rfl, h0', by unfold ixN; rw [if_pos (by omega), if_pos (by omega)]; rfl, ?_⟩
  have al1 := g5 ws0.dropLast cs.dropLast (dpAll_dropLast g4)
  obtain ⟨B', q1, q2⟩ := allN_set (x := PyData.int (if z < 0 then -z else z)) (v := V.int (if z < 0 then -z else z)) (Own.froz (.int _) rfl) 0 al1
  have ho : Own X.K F (upd (upd H b0 (.lst ws0.dropLast)) a0 (.lst (vs0.set 0 (V.int (if z < 0 then -z else z))))) (c.dep i) (.ref a0) (.list ((ds.set 1 (.list cs.dropLast)).set 0 (.int (if z < 0 then -z else z)))) (a0 :: B') := by
    rw [hd]
    refine Own.lst upd_same hF0 (fun z => hn0 (q2 _ z)) (AllN.imp q1 fun w d C hC hP => hP.later (Ex.refl _) fun b hb => ⟨upd_ne fun z => hn0 (q2 _ (by rw [← z]; exact hC b hb)), (hP.cells b hb).2⟩)
  obtain ⟨S3, N3⟩ := slot_put S ed s0 (B := a0 :: B') (fun b hb => by
    rw [hA0]
    rcases List.mem_cons.mp hb with z | z
    · rw [z]; simp
    · exact List.mem_cons_of_mem _ (q2 b z)) ho (fun b hb => by
      rw [upd_ne fun z => hb (by rw [hA0, z]; simp), upd_ne fun z => hb (by rw [hA0, z]; exact List.mem_cons_of_mem _ g2)]) (fun b hb => by
    by_cases hz : b = a0
    · rw [hz, upd_same]; simp
    · rw [upd_ne hz]
      by_cases hz2 : b = b0
      · rw [hz2, upd_same]; simp
      · rw [upd_ne hz2]; exact (S.cell hb).1)
  have S4 := S3.junk (j := j) (v := some (V.ref b0)) hdj
  have k2 := tS.step (σ1 := σ.set j (some (V.ref b0))) (M := [i] ++ M) N3 (sameB_set hij) (fun i hi => List.mem_append_left _ hi) k
  refine ⟨_, _, _, o, S4, eg, ?_⟩
  have hm : ∀ i', i' ∈ M → i' ∈ [i] ++ M := fun i' hi => List.mem_append_right _ hi
  cases o with
  | nx ρ' => exact fun σ2 A2 F2 H2 S2 N2 s2 => k2 σ2 A2 F2 H2 S2 (N2.mono hm) s2
  | bk ρ' => exact fun σ2 A2 F2 H2 S2 N2 s2 => k2 σ2 A2 F2 H2 S2 (N2.mono hm) s2
  | ct ρ' => exact fun σ2 A2 F2 H2 S2 N2 s2 => k2 σ2 A2 F2 H2 S2 (N2.mono hm) s2
  | rt d ρ' => exact fun v σ2 A2 F2 H2 S2 N2 s2 r => k2 v σ2 A2 F2 H2 S2 (N2.mono hm) s2 r
end
end DL

set_option Elab.async false
set_option linter.all false
set_option maxRecDepth 100000
set_option maxHeartbeats 4000000
namespace DL
open PySem L2 PyProof.Rows
section
variable {X : Cx} {c : Cfg} {e a b tg elt iter : Expr} {ifs : List Expr} {es : List Expr} {n n1 n2 n3 m1 m2 : Nat} {da db Ma Mb M M2 Mc Me deps W : List Nat} {ga gb g : GE} {pos p : Pos} {st : Stmt} {rest : List Stmt} {f h : GS}
theorem lc_readN {K : Fr} {m : Nat} {gi : GI} {gt : GG} {gc : GT} {ge : GE} {own : List Nat} {Q : VK} {σ : L2.St} {H : Hp} (hown : ∀ i ∈ own, c.dep i = 0) (hW : ∀ i ∈ W, i ∈ own) (hd : ∀ i ∈ deps, i ∉ Mc ++ Me)
    (w : tD K c (m + 1) [] (Ma ++ (Mc ++ Me)) (gLc own gi gt gc ge) σ H Q) : tLc (tI K c deps Ma gi) (tG K c W gt) (tT K c Mc gc) (tD K c m [] Me ge) own σ H Q := by
  obtain ⟨A, F, ρ, d, ρ', S, eg, k⟩ := w
  unfold gLc at eg
  cases e1 : gi ρ with
  | none => rw [e1] at eg; cases eg
  | some q =>
  obtain ⟨ds, ρ1⟩ := q
  rw [e1] at eg
  simp only [Option.bind_some] at eg
  split at eg
  · rename_i hlim
    cases e2 : lcL own gt gc ge ds (wipeE ρ1 own) with
    | none => rw [e2] at eg; cases eg
    | some r =>
    obtain ⟨xs, ρ2⟩ := r
    rw [e2] at eg
    simp only [Option.map_some, Option.some.injEq, Prod.mk.injEq] at eg
    obtain ⟨rfl, rfl⟩ := eg
    refine ⟨A, F, ρ, ds, ρ1, S, e1, fun J A1 F1 H1 S1 N1 its => ?_⟩
    intro Dd hDd
    have hFD : F1 Dd = none := ex_none S1.ex hDd
    have hAD : ∀ i, Dd ∉ A1 i := fun i hi => (S1.cell hi).1 hDd
    have gr0 : Gr F1 H1 F1 (upd H1 Dd (.lst [])) := Gr.newLst S1.ex hDd
    have S1' := S1.grown gr0
    have N1' : Nxt [] A1 F1 H1 A1 F1 (upd H1 Dd (.lst [])) := Nxt.grown gr0 fun i a ha => (S1.cell ha).1
    -- the invariant
    refine ⟨fun i mm H' => mm = ds.length - i ∧ i ≤ ds.length ∧ ∃ A' F' ρ' acc vs r, StOk K c A' ρ' F' (wipe σ own) H' ∧ Nxt (Mc ++ Me) A1 F1 H1 A' F' H' ∧ H' Dd = some (.lst vs) ∧ F' Dd = none ∧ (∀ j, Dd ∉ A' j) ∧ (∃ Bc, AllN (Own K F' H' m) vs acc Bc ∧ ∀ a ∈ Bc, (∀ j, a ∉ A' j) ∧ a ≠ Dd ∧ ((∃ j, a ∈ A1 j) ∨ H1 a = none)) ∧ acc.length ≤ i ∧ lcL own gt gc ge (ds.drop i) ρ' = some r ∧ acc ++ r.1 = xs ∧ r.2 = ρ2,
      ⟨_, rfl, Nat.zero_le _, A1, F1, wipeE ρ1 own, [], [], _, S1'.wiped hown, N1'.mono (fun i hi => by simp at hi), upd_same, hFD, hAD, ⟨[], .nil, fun a ha => by simp at ha⟩, Nat.le_refl _, by simpa using e2, rfl, rfl⟩, ?_⟩
    rintro i mm H2 ⟨rfl, hil, A2, F2, ρ3, acc, vs, r, S2, N2, hD2, hF2, hA2, ⟨Bc, hacc, hBc⟩, hal, eg2, ex, er⟩
    have it2 := its A2 F2 H2 ρ3 _ (Mc ++ Me) N2 S2 hd
    by_cases hlt : i < ds.length
    · refine .inr ?_
      have hdi : ds[i]? = some ds[i] := List.getElem?_eq_getElem hlt
      obtain ⟨hgo, hy⟩ := it2.1 i _ hdi
      rw [List.drop_eq_getElem_cons hlt] at eg2
      simp only [lcL] at eg2
      cases e3 : gt ρ3 ds[i] with
      | none => rw [e3] at eg2; cases eg2
      | some ρ4 =>
      rw [e3] at eg2
      simp only [Option.bind_some] at eg2
      cases e4 : gc ρ4 with
      | none => rw [e4] at eg2; cases eg2
      | some q =>
      obtain ⟨bb, ρ5⟩ := q
      rw [e4] at eg2
      simp only [Option.bind_some] at eg2
      refine ⟨hgo, fun H' => i + 1 ≤ ds.length ∧ ∃ A' F' ρ' acc vs r, StOk K c A' ρ' F' (wipe σ own) H' ∧ Nxt (Mc ++ Me) A1 F1 H1 A' F' H' ∧ H' Dd = some (.lst vs) ∧ F' Dd = none ∧ (∀ j, Dd ∉ A' j) ∧ (∃ Bc, AllN (Own K F' H' m) vs acc Bc ∧ ∀ a ∈ Bc, (∀ j, a ∉ A' j) ∧ a ≠ Dd ∧ ((∃ j, a ∈ A1 j) ∨ H1 a = none)) ∧ acc.length ≤ i + 1 ∧ lcL own gt gc ge (ds.drop (i + 1)) ρ' = some r ∧ acc ++ r.1 = xs ∧ r.2 = ρ2,
        fun H' w => ⟨ds.length - (i + 1), by omega, rfl, w⟩, fun x H3 y => ?_⟩
      obtain ⟨F3, gr, hdp⟩ := hy x H3 y
      have S3 := S2.grown gr
      have N3 : Nxt [] A2 F2 H2 A2 F3 H3 := Nxt.grown gr fun i a ha => (S2.cell ha).1
      have hD3 : H3 Dd = some (.lst vs) := gr.exH _ _ hD2
      have hF3 : F3 Dd = none := (gr.old Dd (by rw [hD2]; simp)).trans hF2
      refine ⟨A2, F3, ρ3, ds[i], ρ4, S3, hdp, e3, fun σ4 S4 o4 => ?_⟩
      have hw := wipe_eq o4 hW
      refine ⟨hw, A2, F3, ρ4, bb, ρ5, S4, e4, fun A5 F5 H5 S5 N5 => ?_⟩
      obtain ⟨hD5, hA5, hF5⟩ := N5.keep Dd _ hD3 hA2
      have hF5 := hF5 hF3
      obtain ⟨hacc5, hB5, _⟩ := allN_keep (N3.trans N5) hacc fun a ha => (hBc a ha).1
      have hBc5 : ∀ a ∈ Bc, (∀ j, a ∉ A5 j) ∧ a ≠ Dd ∧ ((∃ j, a ∈ A1 j) ∨ H1 a = none) := fun a ha => ⟨hB5 a ha, (hBc a ha).2⟩
      have N25 : Nxt (Mc ++ Me) A1 F1 H1 A5 F5 H5 := ((N2.after0 N3).trans N5).mono fun i hi => (List.mem_append.mp hi).elim id (fun z => List.mem_append_left _ z)
      cases bb with
      | false =>
        rw [if_neg Bool.false_ne_true] at eg2
        show i + 1 ≤ ds.length ∧ _
        refine ⟨hlt, A5, F5, wipeE ρ5 own, acc, vs, r, by rw [← hw]; exact S5.wiped hown, N25, hD5, hF5, hA5, ⟨Bc, hacc5, hBc5⟩, by omega, eg2, ex, er⟩
      | true =>
        rw [if_pos rfl] at eg2
        cases e6 : ge ρ5 with
        | none => rw [e6] at eg2; cases eg2
        | some q =>
        obtain ⟨xd, ρ6⟩ := q
        rw [e6] at eg2
        simp only [Option.bind_some] at eg2
        cases e7 : lcL own gt gc ge (ds.drop (i + 1)) (wipeE ρ6 own) with
        | none => rw [e7] at eg2; cases eg2
        | some r2 =>
        rw [e7] at eg2
        cases eg2
        show tD K c m [] Me ge σ4 H5 _
        refine ⟨A5, F5, ρ5, xd, ρ6, S5, e6, fun v A6 F6 H6 S6 N6 r6 => ?_⟩
        obtain ⟨hD6, hA6, hF6⟩ := N6.keep Dd _ hD5 hA5
        have hF6 := hF6 hF5
        have hl6 : vs.length ≤ i := by rw [hacc.len]; exact hal
        refine ⟨vs, hD6, lim_lt (by omega), hlt, ?_⟩
        obtain ⟨hacc6, hB6, hn5⟩ := allN_keep N6 hacc5 hB5
        obtain ⟨Bx, hx, hBx⟩ := r6
        have hBx' : ∀ a ∈ Bx, (∀ j, a ∉ A6 j) ∧ a ≠ Dd ∧ ((∃ j, a ∈ A1 j) ∨ H1 a = none) := fun a ha => by
          rcases hBx a ha with ⟨z1, z2⟩ | ⟨j, hj, _⟩
          · refine ⟨z1, fun z => ?_, ?_⟩
            · subst z
              rcases z2 with ⟨j, hj⟩ | hn
              · exact hA5 j hj
              · rw [hD5] at hn
                cases hn
            · rcases z2 with ⟨j, hj⟩ | hn
              · exact N25.src j a hj
              · refine .inr ?_
                cases q : H1 a with
                | none => rfl
                | some o => exact absurd hn (N25.grow a (by rw [q]; simp))
          · simp at hj
        have hdis : ∀ a ∈ Bc, a ∉ Bx := fun a ha hb => by
          rcases hBx a hb with ⟨z1, z2⟩ | ⟨j, hj, _⟩
          · rcases z2 with ⟨j, hj⟩ | hn
            · exact hB5 a ha j hj
            · exact hn5 a ha hn
          · simp at hj
        have hnew : AllN (Own K F6 (upd H6 Dd (.lst (vs ++ [v]))) m) (vs ++ [v]) (acc ++ [xd]) (Bc ++ Bx) := by
          have q1 := AllN.append hacc6 (by simpa using AllN.cons hx (AllN.nil (P := Own K F6 H6 m)) (fun a _ z => by simp at z)) hdis
          refine AllN.imp q1 fun w d C hC hP => hP.later (Ex.refl _) fun a ha => ⟨upd_ne fun z => ?_, (hP.cells a ha).2⟩
          rcases List.mem_append.mp (hC a ha) with y | y
          · exact (hBc5 a y).2.1 z
          · exact (hBx' a y).2.1 z
        -- the list grows
        have S7 : StOk K c A6 ρ6 F6 σ4 (upd H6 Dd (.lst (vs ++ [v]))) := by
          refine ⟨fun a o q => ?_, S6.len, fun j d' ej => ?_, S6.no, S6.dis⟩
          · by_cases ha : a = Dd
            · subst ha
              rw [hF6] at q
              cases q
            · rw [upd_ne ha]
              exact S6.ex a o q
          · obtain ⟨w, h1, h2⟩ := S6.own j d' ej
            exact ⟨w, h1, h2.later (Ex.refl _) fun a ha => ⟨upd_ne fun z => hA6 j (by rw [← z]; exact ha), (h2.cells a ha).2⟩⟩
        have N67 : Nxt (Mc ++ Me) A1 F1 H1 A6 F6 H6 := (N25.trans N6).mono fun i hi => (List.mem_append.mp hi).elim id (fun z => List.mem_append_right _ z)
        have N7 : Nxt (Mc ++ Me) A1 F1 H1 A6 F6 (upd H6 Dd (.lst (vs ++ [v]))) := by
          refine ⟨N67.exF, fun a ha => ?_, fun a o ha hn => ?_, fun j hj => ?_, N67.src⟩
          · by_cases hz : a = Dd
            · rw [hz, upd_same]
              simp
            · rw [upd_ne hz]
              exact N67.grow a ha
          · obtain ⟨k1, k2, k3⟩ := N67.keep a o ha hn
            refine ⟨?_, k2, k3⟩
            rw [upd_ne fun z => ?_]
            · exact k1
            · rw [z, hDd] at ha
              cases ha
          · obtain ⟨k1, k2⟩ := N67.own j hj
            refine ⟨k1, fun a ha => ?_⟩
            rw [upd_ne fun z => hAD j (by rw [← z]; exact ha)]
            exact k2 a ha
        refine ⟨A6, F6, wipeE ρ6 own, acc ++ [xd], vs ++ [v], r2, by rw [← hw]; exact S7.wiped hown, N7, upd_same, hF6, hA6, ⟨Bc ++ Bx, hnew, fun a ha => (List.mem_append.mp ha).elim (fun y => ⟨hB6 a y, (hBc5 a y).2⟩) fun y => hBx' a y⟩, by simp; omega, e7, by simpa using ex, er⟩
    · have e5 : i = ds.length := by omega
      subst e5
      rw [List.drop_length] at eg2
      cases eg2
      simp only [List.append_nil] at ex
      subst ex
      have er' : ρ3 = ρ2 := er
      subst er'
      refine .inl ⟨it2.2, ?_⟩
      have lw := wipe_length σ own
      have l1 := S1.len
      have l2 := S2.len
      have hl : ρ1.length = ρ3.length := by omega
      refine k (.ref Dd) A2 F2 H2 ⟨S2.ex, by rw [backE_length]; omega, fun j d' ej => ?_, fun j hj => ?_, S2.dis⟩ (N1.trans N2) ⟨Dd :: Bc, Own.lst hD2 hF2 (fun z => (hBc _ z).2.1 rfl) hacc, fun a ha => ?_⟩
      · by_cases hj : j ∈ own
        · rw [backE_in hl hj] at ej
          obtain ⟨v, h1, h2⟩ := S1.own j d' ej
          rw [hown j hj] at h2
          refine ⟨v, h1, ?_⟩
          rw [hown j hj, dep0_nil S2 (hown j hj)]
          exact Own.froz0 (Dp.ex N2.exF _ _ (Own.zero.mp h2).1)
        · rw [backE_out hj] at ej
          obtain ⟨v, h1, h2⟩ := S2.own j d' ej
          rw [wipe_out hj] at h1
          exact ⟨v, h1, h2⟩
      · by_cases hj' : j ∈ own
        · exact dep0_nil S2 (hown j hj')
        · exact S2.no j fun d' e => hj d' (by rw [backE_out hj']; exact e)
      · rcases List.mem_cons.mp ha with this | hb
        · subst this
          refine .inl ⟨hA2, .inr ?_⟩
          cases q : H a with
          | none => rfl
          | some o => exact absurd hDd (N1.grow a (by rw [q]; simp))
        · obtain ⟨z1, _, z2⟩ := hBc a hb
          refine .inl ⟨z1, ?_⟩
          rcases z2 with ⟨j, hj⟩ | hn
          · exact N1.src j a hj
          · refine .inr ?_
            cases q : H a with
            | none => rfl
            | some o => exact absurd hn (N1.grow a (by rw [q]; simp))
  · cases eg
theorem de_lcN {m : Nat} {scope : Scope} {own : List (Str × Nat)} {gi : GI} {gt : GG} {gc : GT} {ge : GE} (hc : X.calm = true) (hN : X.N.Nodup) (hi : DI X c tg iter deps Ma gi) (ok : BlkOk X.N X.env.scope scope own)
    (hg : ∀ (s : Shared) (H : Hp) (C : Addr) (cl : List (Str × Addr)) (fp : List Addr), DG (X.blk s H scope (compEnvC scope cl C X.env) fp) c tg W gt) (ht : ∀ (s : Shared) (H : Hp) (C : Addr) (cl : List (Str × Addr)) (fp : List Addr), DTs (X.blk s H scope (compEnvC scope cl C X.env) fp) c ifs Mc gc)
    (he : ∀ (s : Shared) (H : Hp) (C : Addr) (cl : List (Str × Addr)) (fp : List Addr), DE (X.blk s H scope (compEnvC scope cl C X.env) fp) c elt m [] Me ge)
    (hown : ∀ i ∈ own.map (·.2), c.dep i = 0 := by decide) (hW : ∀ i ∈ W, i ∈ own.map (·.2) := by decide) (hd : ∀ i ∈ deps, i ∉ Mc ++ Me := by decide) (hs : ∀ x, foldedSetIterable iter X.env x = pure x := by intro _; rfl) :
    DE X c (.ListComp elt [⟨tg, iter, ifs, 0⟩] scope pos) (m + 1) [] (Ma ++ (Mc ++ Me)) (gLc (own.map (·.2)) gi gt gc ge) :=
  PE.imp (pe_lc (g := tG X.K c W gt) (tt := tT X.K c Mc gc) (te := tD X.K c m [] Me ge) hc hN hi ok hg ht he hs) fun σ H Q w => lc_readN hown hW hd w
/-- name = [..] -/
theorem ds_setLcN {m : Nat} {scope : Scope} {own : List (Str × Nat)} {gi : GI} {gt : GG} {gc : GT} {ge : GE} {i : Nat} {y : Str} {py spos : Pos} (hc : X.calm = true) (hN : X.N.Nodup) (hi : DI X c tg iter deps Ma gi) (ok : BlkOk X.N X.env.scope scope own)
    (hg : ∀ (s : Shared) (H : Hp) (C : Addr) (cl : List (Str × Addr)) (fp : List Addr), DG (X.blk s H scope (compEnvC scope cl C X.env) fp) c tg W gt) (ht : ∀ (s : Shared) (H : Hp) (C : Addr) (cl : List (Str × Addr)) (fp : List Addr), DTs (X.blk s H scope (compEnvC scope cl C X.env) fp) c ifs Mc gc)
    (he : ∀ (s : Shared) (H : Hp) (C : Addr) (cl : List (Str × Addr)) (fp : List Addr), DE (X.blk s H scope (compEnvC scope cl C X.env) fp) c elt m [] Me ge) (hsw : swapsWith (.ListComp elt [⟨tg, iter, ifs, 0⟩] scope pos) (some (.Name y py)) spos.line X.env = pure true)
    (hdi : c.dep i = m + 1 := by rfl) (hii : i ∉ c.ino := by decide) (hy : X.N[i]? = some y := by rfl) (hyl : X.env.scope.names.lookup y = some .local := by rfl) (hown : ∀ i ∈ own.map (·.2), c.dep i = 0 := by decide) (hW : ∀ i ∈ W, i ∈ own.map (·.2) := by decide) (hd : ∀ i ∈ deps, i ∉ Mc ++ Me := by decide) (hs : ∀ x, foldedSetIterable iter X.env x = pure x := by intro _; rfl) :
    DS X c n (.Assign [.Name y py] (.ListComp elt [⟨tg, iter, ifs, 0⟩] scope pos) spos) (i :: (Ma ++ (Mc ++ Me))) (sSet i (gLc (own.map (·.2)) gi gt gc ge)) := by
  refine ds_setT (te := tD X.K c (c.dep i) [] (Ma ++ (Mc ++ Me)) (gLc (own.map (·.2)) gi gt gc ge)) ?_ hii
  rw [hdi]
  exact PS.imp (ps_setLc (g := tG X.K c W gt) (tt := tT X.K c Mc gc) (te := tD X.K c m [] Me ge) hc hN hy hyl hsw hi ok hg ht he hs) fun Ds σ H w => lc_readN hown hW hd w

/-! ### [e, e2, e3], the middle one a list of one's own -/
def gLst3 (g1 g2 g3 : GE) : GE := fun ρ => (g1 ρ).bind fun p => (g2 p.2).bind fun q => (g3 q.2).bind fun r => if isLD p.1 = true ∨ isLD r.1 = true then none else some (.list [p.1, q.1, r.1], r.2)
theorem de_lst3 {e1 e2 e3 : Expr} {g1 g2 g3 : GE} {M1 M2 M3 d1 d3 : List Nat} {m : Nat} (h1 : DE X c e1 0 d1 M1 g1) (h2 : DE X c e2 m [] M2 g2) (h3 : DE X c e3 0 d3 M3 g3) 
    (hs1 : starEach [e1, e2, e3] X.env = (false, eval e1 X.env) :: starEach [e2, e3] X.env := by rfl) (hs2 : starEach [e2, e3] X.env = (false, eval e2 X.env) :: starEach [e3] X.env := by rfl) (hs3 : starEach [e3] X.env = (false, eval e3 X.env) :: starEach [] X.env := by rfl) : DE X c (.List [e1, e2, e3] pos) (m + 1) [] (M1 ++ (M2 ++ M3)) (gLst3 g1 g2 g3) := by
  refine PE.imp (pe_lst (pa_cons h1 (pa_cons h2 (pa_cons h3 pa_nil hs3) hs2) hs1)) fun σ H Q w => ?_
  obtain ⟨A, F, ρ, d, ρ', S, eg, k⟩ := w
  obtain ⟨⟨x1, ρ1⟩, e1, eg⟩ := Option.bind_eq_some_iff.mp eg
  obtain ⟨⟨x2, ρ2⟩, e2, eg⟩ := Option.bind_eq_some_iff.mp eg
  obtain ⟨⟨x3, ρ3⟩, e3, eg⟩ := Option.bind_eq_some_iff.mp eg
  split at eg
  · cases eg
  rename_i hl
  cases eg
  have hl1 : isLD x1 = false := by
    cases q : isLD x1 with
    | false => rfl
    | true => exact absurd (.inl q) hl
  have hl3 : isLD x3 = false := by
    cases q : isLD x3 with
    | false => rfl
    | true => exact absurd (.inr q) hl
  refine ⟨A, F, ρ, x1, ρ1, S, e1, fun v1 A1 F1 H1 S1 N1 r1 => ?_⟩
  refine ⟨A1, F1, ρ1, x2, ρ2, S1, e2, fun v2 A2 F2 H2 S2 N2 r2 => ?_⟩
  refine ⟨A2, F2, ρ2, x3, ρ3, S2, e3, fun v3 A3 F3 H3 S3 N3 r3 => ?_⟩
  refine ⟨lim_ok (by simp [lim]), fun p hp => ?_⟩
  obtain ⟨B, ho, hB⟩ := (r2.back N1).later N3 S3 (by simp)
  have gr := Gr.newLst (o := .lst [v1, v2, v3]) S3.ex hp
  have N4 : Nxt (M1 ++ (M2 ++ M3)) A F H A3 F3 (upd H3 p (.lst [v1, v2, v3])) := by simpa using (N1.trans (N2.trans N3)).trans (Nxt.grown gr fun i a ha => (S3.cell ha).1)
  have hpB : p ∉ B := fun z => (ho.cells p z).1 hp
  refine k (.ref p) A3 F3 _ (S3.grown gr) N4 ⟨p :: B, ?_, fun a ha => ?_⟩
  · have f1 : Own X.K F3 (upd H3 p (.lst [v1, v2, v3])) m v1 x1 [] := Own.froz (Dp.ex (N2.exF.trans N3.exF) _ _ r1.froz0) hl1
    have f3 : Own X.K F3 (upd H3 p (.lst [v1, v2, v3])) m v3 x3 [] := Own.froz r3.froz0 hl3
    have q3 := AllN.cons f3 (AllN.nil (P := Own X.K F3 (upd H3 p (.lst [v1, v2, v3])) m)) (fun a ha => by simp at ha)
    have q2 := AllN.cons (ho.grown gr) q3 (fun a _ z => by simp at z)
    have q1 := AllN.cons f1 q2 (fun a ha => by simp at ha)
    exact Own.lst upd_same (ex_none S3.ex hp) hpB (by simpa using q1)
  · rcases List.mem_cons.mp ha with z | z
    · subst z
      refine .inl ⟨fun j hj => (S3.cell hj).1 hp, .inr ?_⟩
      cases q : H a with
      | none => rfl
      | some o => exact absurd hp ((N1.trans (N2.trans N3)).grow a (by rw [q]; simp))
    · rcases hB a z with z | ⟨j, hj, _⟩
      · exact .inl z
      · simp at hj
/-! ### sorted, pairs of whole numbers -/
def prOf : D → Option (Int × Int)
  | .tuple [.int i, .int j] => some (i, j)
  | _ => none
def prsOf : List D → Option (List (Int × Int))
  | [] => some []
  | d :: ds => (prOf d).bind fun p => (prsOf ds).map fun r => p :: r
def prD (p : Int × Int) : D := .tuple [.int p.1, .int p.2]
theorem prOf_some {d : D} {p : Int × Int} (h : prOf d = some p) : d = prD p := by
  unfold prOf at h
  split at h
  · cases h
    rfl
  · cases h
theorem prsOf_some : ∀ {ds : List D} {ps : List (Int × Int)}, prsOf ds = some ps → ds = ps.map prD
  | [], _, h => by
    cases h
    rfl
  | d :: ds, ps, h => by
    obtain ⟨p, h1, h⟩ := Option.bind_eq_some_iff.mp h
    obtain ⟨r, h2, h⟩ := Option.map_eq_some_iff.mp h
    subst h
    rw [prOf_some h1, prsOf_some h2]
    rfl
theorem prsOf_map : ∀ (ps : List (Int × Int)), prsOf (ps.map prD) = some ps
  | [] => rfl
  | p :: ps => by
    show (prOf (prD p)).bind _ = _
    rw [prsOf_map ps]
    rfl
def leP (x y : Int × Int) : Bool := decide (x.1 < y.1 ∨ (x.1 = y.1 ∧ x.2 ≤ y.2))
def insP (x : Int × Int) : List (Int × Int) → List (Int × Int)
  | [] => [x]
  | y :: r => if leP x y = true then x :: y :: r else y :: insP x r
def srtP : List (Int × Int) → List (Int × Int)
  | [] => []
  | x :: r => insP x (srtP r)
theorem insP_perm {x : Int × Int} : ∀ {l : List (Int × Int)}, (insP x l).Perm (x :: l)
  | [] => .refl _
  | y :: r => by
    unfold insP
    split
    · exact .refl _
    · exact (List.Perm.cons y insP_perm).trans (.swap x y r)
theorem srtP_perm : ∀ (l : List (Int × Int)), (srtP l).Perm l
  | [] => .refl _
  | x :: r => insP_perm.trans ((srtP_perm r).cons x)
theorem leP_tot {x y : Int × Int} (h : leP x y = false) : leP y x = true := by
  simp only [leP, decide_eq_false_iff_not, decide_eq_true_eq] at *
  omega
theorem leP_trans {x y z : Int × Int} (h : leP x y = true) (h2 : leP y z = true) : leP x z = true := by
  simp only [leP, decide_eq_true_eq] at *
  omega
theorem leP_anti {x y : Int × Int} (h : leP x y = true) (h2 : leP y x = true) : x = y := by
  simp only [leP, decide_eq_true_eq] at *
  exact Prod.ext (by omega) (by omega)
theorem insP_srt {x : Int × Int} : ∀ {l : List (Int × Int)}, l.Pairwise (fun a b => leP a b = true) → (insP x l).Pairwise (fun a b => leP a b = true)
  | [], _ => by simp [insP]
  | y :: r, h => by
    obtain ⟨h1, h2⟩ := List.pairwise_cons.mp h
    unfold insP
    split
    · rename_i hxy
      exact List.pairwise_cons.mpr ⟨fun z hz => (List.mem_cons.mp hz).elim (fun e => by rw [e]; exact hxy) fun e => leP_trans hxy (h1 z e), h⟩
    · rename_i hxy
      refine List.pairwise_cons.mpr ⟨fun z hz => ?_, insP_srt h2⟩
      rcases List.mem_cons.mp (insP_perm.mem_iff.mp hz) with e | e
      · rw [e]
        exact leP_tot (by simpa using hxy)
      · exact h1 z e
theorem srtP_srt : ∀ (l : List (Int × Int)), (srtP l).Pairwise (fun a b => leP a b = true)
  | [] => .nil
  | x :: r => insP_srt (srtP_srt r)
theorem srt_uniq : ∀ {l m : List (Int × Int)}, l.Pairwise (fun a b => leP a b = true) → m.Pairwise (fun a b => leP a b = true) → l.Perm m → l = m
  | [], m, _, _, h => (List.Perm.eq_nil h.symm).symm
  | x :: l, [], _, _, h => absurd h.length_eq (by simp)
  | x :: l, y :: m, hl, hm, h => by
    obtain ⟨l1, l2⟩ := List.pairwise_cons.mp hl
    obtain ⟨m1, m2⟩ := List.pairwise_cons.mp hm
    have e : x = y := by
      rcases List.mem_cons.mp (h.mem_iff.mp (List.mem_cons_self (a := x) (l := l))) with e | hx
      · exact e
      · rcases List.mem_cons.mp (h.mem_iff.mpr (List.mem_cons_self (a := y) (l := m))) with e | hy
        · exact e.symm
        · exact leP_anti (l1 y hy) (m1 x hx)
    subst e
    rw [srt_uniq l2 m2 h.cons_inv]
def sortPD : D → Option D
  | .list ds => (prsOf ds).map fun ps => .list ((srtP ps).map prD)
  | _ => none
def keyH (H : Hp) : V → Int × Int
  | .ref t => match H t with
    | some (.tup [.int i, .int j]) => (i, j)
    | _ => (0, 0)
  | _ => (0, 0)
theorem prs_dp {K : Fr} {F H : Hp} (ex : Ex F H) : ∀ {ps : List (Int × Int)} {vs : List V}, DpAll K F vs (ps.map prD) → (∀ x ∈ vs, ∃ t, x = V.ref t ∧ F t = some (.tup [.int (keyH H x).1, .int (keyH H x).2])) ∧ vs.map (keyH H) = ps
  | [], _, h => by
    cases h
    exact ⟨fun x hx => by simp at hx, rfl⟩
  | p :: ps, _, h => by
    cases h with
    | cons h1 h2 =>
      obtain ⟨q1, q2⟩ := prs_dp ex h2
      cases h1 with
      | tup hs ha =>
        cases ha with
        | cons a1 a2 =>
          cases a2 with
          | cons a3 a4 =>
            cases a1
            cases a3
            cases a4
            rename_i t
            have e : keyH H (.ref t) = p := by
              simp only [keyH, ex _ _ hs]
            refine ⟨fun x hx => ?_, by rw [List.map_cons, e, q2]⟩
            rcases List.mem_cons.mp hx with z | z
            · subst z
              exact ⟨t, rfl, by rw [e]; exact hs⟩
            · exact q1 x z
theorem dp_prs {K : Fr} {F H : Hp} : ∀ {vs : List V}, (∀ x ∈ vs, ∃ t, x = V.ref t ∧ F t = some (.tup [.int (keyH H x).1, .int (keyH H x).2])) → DpAll K F vs ((vs.map (keyH H)).map prD)
  | [], _ => .nil
  | v :: vs, h => by
    obtain ⟨t, e, ht⟩ := h v (by simp)
    refine .cons ?_ (dp_prs fun x hx => h x (List.mem_cons_of_mem _ hx))
    subst e
    exact .tup ht (.cons (.int _) (.cons (.int _) .nil))
theorem srtd_le {H : Hp} {ys : List V} (h : SrtO.Srtd (ltP (keyH H)) ys) : (ys.map (keyH H)).Pairwise (fun a b => leP a b = true) := by
  refine List.pairwise_map.mpr (List.Pairwise.imp ?_ h)
  intro x y q
  have := SrtO.lexB_no.mp q
  simp only [leP, decide_eq_true_eq]
  omega
theorem cd_sortedP : CallD X (.builtin "sorted") 1 1 sortPD := ⟨_, cr_sortedPO, fun F H x dx d B1 e o hs Q k => by
  cases dx <;> simp only [sortPD] at hs <;> first | cases hs | skip
  obtain ⟨ps, e1, hs⟩ := Option.map_eq_some_iff.mp hs
  subst hs
  obtain ⟨a, vs, rfl, s1, a1⟩ := o.lst1 e
  rw [prsOf_some e1] at a1
  obtain ⟨q1, q2⟩ := prs_dp e a1
  refine ⟨a, vs, keyH H, rfl, s1, fun x hx => ?_, fun ys p h1 h2 hp => ?_⟩
  · obtain ⟨t, z1, z2⟩ := q1 x hx
    exact ⟨t, z1, e _ _ z2⟩
  · have hm : ∀ x ∈ ys, ∃ t, x = V.ref t ∧ F t = some (.tup [.int (keyH H x).1, .int (keyH H x).2]) := fun x hx => q1 x (h2.perm.mem_iff.mp hx)
    have hd := dp_prs (K := X.K) hm
    have hu : ys.map (keyH H) = srtP ps := srt_uniq (srtd_le h1) (srtP_srt ps) ((h2.perm.map _).trans (by rw [q2]; exact (srtP_perm ps).symm))
    rw [hu] at hd
    exact KQ.lst k e hd hp⟩
theorem nd_sortP : ∀ x d, sortPD x = some d → isDict d = false := fun x d h => by
  cases x <;> simp [sortPD] at h
  obtain ⟨ps, _, rfl⟩ := h
  rfl
end
end DL

set_option Elab.async false
set_option linter.all false
set_option maxRecDepth 100000
set_option maxHeartbeats 4000000
namespace L2
open PySem PySem.Spec PyProof.Rows
def geV (ns ms : List Int) : Bool := Ob.lexAt (fun j => decide (ns.getD j 0 = ms.getD j 0)) (fun j => decide (ms.getD j 0 ≤ ns.getD j 0)) (decide (ns.length ≥ ms.length)) 0 (min ns.length ms.length)
def rGeT (K : PySem.W.Frag) : R2 := fun x y H Q => ∃ (a b : Addr) (ns ms : List Int), x = .ref a ∧ y = .ref b ∧ SqT K H a (ns.map V.int) ∧ SqT K H b (ms.map V.int) ∧ Q (.bl (geV ns ms)) H
theorem op_geT {X : Cx} (hu : X.A.units < cLine) : OpR X (compareOp .GtE) (rGeT X.K) := by
  intro pins s σ H x y v u Q I rx ry h
  obtain ⟨a, b, ns, ms, rfl, rfl, ha, hb, q⟩ := h
  cases rx
  cases ry
  obtain ⟨its, r1, p1, _⟩ := I.tuple ha
  obtain ⟨its2, r2, p2, _⟩ := I.tuple hb
  have i1 : IntsAre its ns := Vals.ints r1
  have i2 : IntsAre its2 ms := Vals.ints r2
  have e1 : its.toArray.size = ns.length := by rw [List.size_toArray]; exact i1.length
  have e2 : its2.toArray.size = ms.length := by rw [List.size_toArray]; exact i2.length
  have at1 : ∀ j (h1 : j < its.toArray.size), ∃ t, its.toArray[j] = .int (ns.getD j 0) t := fun j h1 => PyProof.Rows.IntsAre.int_at i1 _ _ (by simp at h1; simp [h1])
  have at2 : ∀ j (h1 : j < its2.toArray.size), ∃ t, its2.toArray[j] = .int (ms.getD j 0) t := fun j h1 => PyProof.Rows.IntsAre.int_at i2 _ _ (by simp at h1; simp [h1])
  have R := Ob.RcOp.tuples_ge (A := X.A) (s := s) (e := fun j => decide (ns.getD j 0 = ms.getD j 0)) (r := fun j => decide (ms.getD j 0 ≤ ns.getD j 0)) p1 p2 hu (fun j h1 h2 => by
    obtain ⟨t, et⟩ := at1 j h1
    obtain ⟨t', et'⟩ := at2 j h2
    rw [et, et']
    have z : (ns.getD j 0 == ms.getD j 0) = decide (ns.getD j 0 = ms.getD j 0) := by
      by_cases q : ns.getD j 0 = ms.getD j 0
      · rw [decide_eq_true q]; exact beq_iff_eq.mpr q
      · rw [decide_eq_false q]; exact beq_eq_false_iff_ne.mpr q
    rw [← z]
    exact SeqAt.EqAt.int_int _ _ _ _) (fun j h1 h2 _ => by
    obtain ⟨t, et⟩ := at1 j h1
    obtain ⟨t', et'⟩ := at2 j h2
    rw [et, et']
    exact Ob.RcOp.ge_int _ _ _ _)
  rw [e1, e2] at R
  exact R _ _ _ _ ⟨.bl _, H, I, rfl, q⟩
end L2
namespace DL
open PySem L2 PyProof.Rows
def geD2 : D → D → Option D
  | .int i, .int j => some (.bool (decide (j ≤ i)))
  | .tuple xs, .tuple ys => (intsOf xs).bind fun a => (intsOf ys).map fun b => .bool (geV a b)
  | _, _ => none
theorem od_ge2 {X : Cx} (hu : X.A.units < cLine) : OpD X (compareOp .GtE) 0 0 0 geD2 := ⟨_, op_ge.or (op_geT hu), fun F H x y dx dy d B1 B2 e ox oy hs Q k => by
  cases dx with
  | int i =>
    cases dy <;> simp [geD2] at hs
    subst hs
    rw [ox.int, oy.int]
    exact .inl ⟨_, _, rfl, rfl, KQ.flat k e (.bl _)⟩
  | tuple xs =>
    cases dy with
    | tuple ys =>
      simp only [geD2] at hs
      cases e1 : intsOf xs with
      | none => rw [e1] at hs; cases hs
      | some p =>
        cases e2 : intsOf ys with
        | none => rw [e1, e2] at hs; cases hs
        | some q =>
          rw [e1, e2] at hs
          cases hs
          obtain ⟨a, vs, rfl, s1, a1⟩ := ox.tup
          obtain ⟨b, ws, rfl, s2, a2⟩ := oy.tup
          rw [intsOf_dp a1 e1] at s1
          rw [intsOf_dp a2 e2] at s2
          exact .inr ⟨a, b, p, q, rfl, rfl, SqT.of (e _ _ s1), SqT.of (e _ _ s2), KQ.flat k e (.bl _)⟩
    | _ => simp [geD2] at hs
  | _ => cases dy <;> simp [geD2] at hs⟩
end DL

set_option Elab.async false
set_option linter.all false
set_option maxRecDepth 100000
set_option maxHeartbeats 4000000
/-! DL6: slices, list(range), max and min of a list, enumerate, zip, comprehensions of two walks. -/
namespace DL
open PySem L2 PyProof.Rows
/-! ### max, min -/
def maxL : List Int → Option Int
  | [] => none
  | n :: r => some (r.foldl max n)
def minL : List Int → Option Int
  | [] => none
  | n :: r => some (r.foldl min n)
theorem foldl_maxI : ∀ (l : List Int) (b : Int), b ≤ l.foldl max b ∧ (∀ y ∈ l, y ≤ l.foldl max b) ∧ (l.foldl max b = b ∨ l.foldl max b ∈ l)
  | [], b => ⟨Int.le_refl _, by simp, .inl rfl⟩
  | x :: r, b => by
    obtain ⟨h1, h2, h3⟩ := foldl_maxI r (max b x)
    rw [List.foldl_cons]
    refine ⟨by omega, fun y hy => ?_, ?_⟩
    · rcases List.mem_cons.mp hy with rfl | hy
      · omega
      · exact h2 y hy
    · rcases h3 with h3 | h3
      · rw [h3]
        rcases Int.le_total b x with q | q
        · exact .inr (by rw [Int.max_eq_right q]; simp)
        · exact .inl (by rw [Int.max_eq_left q])
      · exact .inr (List.mem_cons_of_mem _ h3)
theorem foldl_minI : ∀ (l : List Int) (b : Int), l.foldl min b ≤ b ∧ (∀ y ∈ l, l.foldl min b ≤ y) ∧ (l.foldl min b = b ∨ l.foldl min b ∈ l)
  | [], b => ⟨Int.le_refl _, by simp, .inl rfl⟩
  | x :: r, b => by
    obtain ⟨h1, h2, h3⟩ := foldl_minI r (min b x)
    rw [List.foldl_cons]
    refine ⟨by omega, fun y hy => ?_, ?_⟩
    · rcases List.mem_cons.mp hy with rfl | hy
      · omega
      · exact h2 y hy
    · rcases h3 with h3 | h3
      · rw [h3]
        rcases Int.le_total b x with q | q
        · exact .inl (by rw [Int.min_eq_left q])
        · exact .inr (by rw [Int.min_eq_right q]; simp)
      · exact .inr (List.mem_cons_of_mem _ h3)
theorem maxL_spec {l : List Int} {m : Int} (h : maxL l = some m) : m ∈ l ∧ ∀ y ∈ l, y ≤ m := by
  cases l with
  | nil => cases h
  | cons n r =>
    cases h
    obtain ⟨h1, h2, h3⟩ := foldl_maxI r n
    refine ⟨?_, fun y hy => ?_⟩
    · rcases h3 with h3 | h3
      · rw [h3]; simp
      · exact List.mem_cons_of_mem _ h3
    · rcases List.mem_cons.mp hy with rfl | hy
      · exact h1
      · exact h2 y hy
theorem minL_spec {l : List Int} {m : Int} (h : minL l = some m) : m ∈ l ∧ ∀ y ∈ l, m ≤ y := by
  cases l with
  | nil => cases h
  | cons n r =>
    cases h
    obtain ⟨h1, h2, h3⟩ := foldl_minI r n
    refine ⟨?_, fun y hy => ?_⟩
    · rcases h3 with h3 | h3
      · rw [h3]; simp
      · exact List.mem_cons_of_mem _ h3
    · rcases List.mem_cons.mp hy with rfl | hy
      · exact h1
      · exact h2 y hy
def maxD : D → Option D
  | .list ds => ((intsOf ds).bind maxL).map .int
  | _ => none
def minD : D → Option D
  | .list ds => ((intsOf ds).bind minL).map .int
  | _ => none
theorem cd_max {X : Cx} (hc : X.calm = true) : CallD X (.builtin "max") 1 0 maxD := ⟨_, cr_max hc, fun F H x dx d B1 e o hs Q k => by
  cases dx <;> simp only [maxD, reduceCtorEq] at hs
  obtain ⟨m, hs2, rfl⟩ := Option.map_eq_some_iff.mp hs
  obtain ⟨ns, h1, h2⟩ := Option.bind_eq_some_iff.mp hs2
  obtain ⟨a, vs, rfl, s1, a1⟩ := o.lst1 e
  rw [intsOf_dp a1 h1] at s1
  obtain ⟨m1, m2⟩ := maxL_spec h2
  refine ⟨a, ns, rfl, s1, List.length_pos_of_mem m1, fun z hz hy => ?_⟩
  rw [show z = m from Int.le_antisymm (m2 z hz) (hy m m1)]
  exact KQ.flat k e (.int _)⟩
theorem cd_min {X : Cx} (hc : X.calm = true) : CallD X (.builtin "min") 1 0 minD := ⟨_, cr_min hc, fun F H x dx d B1 e o hs Q k => by
  cases dx <;> simp only [minD, reduceCtorEq] at hs
  obtain ⟨m, hs2, rfl⟩ := Option.map_eq_some_iff.mp hs
  obtain ⟨ns, h1, h2⟩ := Option.bind_eq_some_iff.mp hs2
  obtain ⟨a, vs, rfl, s1, a1⟩ := o.lst1 e
  rw [intsOf_dp a1 h1] at s1
  obtain ⟨m1, m2⟩ := minL_spec h2
  refine ⟨a, ns, rfl, s1, List.length_pos_of_mem m1, fun z hz hy => ?_⟩
  rw [show z = m from Int.le_antisymm (hy m m1) (m2 z hz)]
  exact KQ.flat k e (.int _)⟩
/-! ### slices -/
abbrev GO := Env → Option (Option Int × Env)
def tOp (K : Fr) (c : Cfg) (M : List Nat) (g : GO) : TO := fun σ H Q => ∃ A F ρ i ρ', StOk K c A ρ F σ H ∧ g ρ = some (i, ρ') ∧
  ∀ A' F' H', StOk K c A' ρ' F' σ H' → Nxt M A F H A' F' H' → Q i H'
theorem PO.imp {X : Cx} {e : Option Expr} {t t' : TO} (h : PO X e t) (q : ∀ σ H Q, t' σ H Q → t σ H Q) : PO X e t' := ⟨fun pins s σ H Q I w => h.run pins s σ H Q I (q _ _ _ w)⟩
def DO (X : Cx) (c : Cfg) (o : Option Expr) (M : List Nat) (g : GO) : Prop := PO X o (tOp X.K c M g)
def goN : GO := fun ρ => some (none, ρ)
def goS (g : GE) : GO := fun ρ => (g ρ).bind fun p => (asI p.1).map fun i => (some i, p.2)
section
variable {X : Cx} {c : Cfg} {e a b tg elt iter tg1 iter1 : Expr} {ifs ifs1 : List Expr} {es : List Expr} {n n1 n2 n3 m1 m2 : Nat} {da db Ma Mb M M2 Mc Me deps deps1 W W1 : List Nat} {ga gb g : GE} {pos p : Pos} {st : Stmt} {rest : List Stmt} {f h : GS}
theorem do_none : DO X c none [] goN := by
  refine PO.imp po_none fun σ H Q w => ?_
  obtain ⟨A, F, ρ, i, ρ', S, eg, k⟩ := w
  cases eg
  exact k A F H S Nxt.refl
theorem do_some (he : DE X c e 0 [] M g) : DO X c (some e) M (goS g) := by
  refine PO.imp (po_some he) fun σ H Q w => ?_
  obtain ⟨A, F, ρ, i, ρ', S, eg, k⟩ := w
  obtain ⟨⟨d, ρ1⟩, e1, eg⟩ := Option.bind_eq_some_iff.mp eg
  obtain ⟨j, e2, eg⟩ := Option.map_eq_some_iff.mp eg
  cases eg
  have e2 := asI_some e2
  subst e2
  refine ⟨A, F, ρ, _, ρ1, S, e1, fun v A1 F1 H1 S1 N1 r1 => ?_⟩
  have hv := r1.froz0
  cases hv
  exact ⟨j, rfl, k A1 F1 H1 S1 N1⟩
def cutL {α : Type} (ds : List α) (lo hi : Option Int) : List α := (ds.drop (HT.sIx ds.length 0 lo)).take (HT.sIx ds.length ds.length hi - HT.sIx ds.length 0 lo)
theorem dpAll_drop {K : Fr} {H : Hp} : ∀ {ds : List D} {vs : List V} (j : Nat), DpAll K H vs ds → DpAll K H (vs.drop j) (ds.drop j)
  | _, _, 0, h => h
  | [], _, j + 1, h => by
    cases h
    exact .nil
  | d :: ds, _, j + 1, h => by
    cases h with
    | cons h1 h2 => exact dpAll_drop j h2
theorem dpAll_take {K : Fr} {H : Hp} : ∀ {ds : List D} {vs : List V} (j : Nat), DpAll K H vs ds → DpAll K H (vs.take j) (ds.take j)
  | _, _, 0, h => .nil
  | [], _, j + 1, h => by
    cases h
    exact .nil
  | d :: ds, _, j + 1, h => by
    cases h with
    | cons h1 h2 => exact .cons h1 (dpAll_take j h2)
theorem dpAll_cut {K : Fr} {H : Hp} {ds : List D} {vs : List V} (h : DpAll K H vs ds) (lo hi : Option Int) : DpAll K H (cutV vs lo hi) (cutL ds lo hi) := by
  unfold cutV cutL
  rw [dpAll_len h]
  exact dpAll_take _ (dpAll_drop _ h)
def sliceD (lo hi : Option Int) : D → Option D
  | .list ds => some (.list (cutL ds lo hi))
  | .tuple ds => some (.tuple (cutL ds lo hi))
  | .str z => if z.length ≤ lim then some (.str (cutS z lo hi)) else none
  | _ => none
theorem nd_slice {lo hi : Option Int} : ∀ x d, sliceD lo hi x = some d → isDict d = false := fun x d h => by
  cases x <;> simp [sliceD] at h
  · obtain ⟨_, rfl⟩ := h
    rfl
  · subst h; rfl
  · subst h; rfl
def gSlice (g : GE) (gl gh : GO) : GE := fun ρ => (g ρ).bind fun p => (gl p.2).bind fun q => (gh q.2).bind fun r => (sliceD q.1 r.1 p.1).map fun z => (z, r.2)
theorem nd_gSlice {gl gh : GO} : ND (gSlice g gl gh) := fun ρ d ρ' q => by
  obtain ⟨_, _, q⟩ := Option.bind_eq_some_iff.mp q
  obtain ⟨_, _, q⟩ := Option.bind_eq_some_iff.mp q
  obtain ⟨_, _, q⟩ := Option.bind_eq_some_iff.mp q
  obtain ⟨z, h, q⟩ := Option.map_eq_some_iff.mp q
  cases q
  exact nd_slice _ _ h
theorem de_slice {lo hi : Option Expr} {gl gh : GO} {p2 : Pos} (ha : DE X c a n1 da Ma ga) (hl : DO X c lo M gl) (hh : DO X c hi M2 gh) (hm : n1 = 0 ∨ n1 = 1 := by decide) (hd : ∀ i ∈ da, i ∉ M ++ M2 := by decide) :
    DE X c (.Subscript a (.Slice lo hi none p2) pos) 1 [] (Ma ++ (M ++ M2)) (gSlice ga gl gh) := by
  refine PE.imp (pe_slice (sl_list.or (sl_tupA.or sl_str)) ha hl hh) fun σ H Q w => ?_
  obtain ⟨A, F, ρ, d, ρ', S, eg, k⟩ := w
  obtain ⟨⟨x, ρ1⟩, e1, eg1⟩ := Option.bind_eq_some_iff.mp eg
  obtain ⟨⟨i, ρ2⟩, e2, eg2⟩ := Option.bind_eq_some_iff.mp eg1
  obtain ⟨⟨j, ρ3⟩, e3, eg3⟩ := Option.bind_eq_some_iff.mp eg2
  obtain ⟨z, e4, eg4⟩ := Option.map_eq_some_iff.mp eg3
  clear eg eg1 eg2 eg3
  cases eg4
  refine ⟨A, F, ρ, x, ρ1, S, e1, fun v A1 F1 H1 S1 N1 r1 => ⟨A1, F1, ρ1, i, ρ2, S1, e2, fun A2 F2 H2 S2 N2 => ⟨A2, F2, ρ2, j, ρ3, S2, e3, fun A3 F3 H3 S3 N3 => ?_⟩⟩⟩
  obtain ⟨B, ho, _⟩ := r1.later (N2.trans N3) S3 hd
  have hq := fin_op S3 (N1.trans (N2.trans N3)) k
  cases x <;> simp only [sliceD, Option.some.injEq] at e4 <;> first | cases e4 | skip
  · rename_i y
    split at e4
    · rename_i hy
      cases e4
      have := (ho.l (n := 1) hm).str
      subst this
      exact .inr (.inr ⟨y, rfl, lim_ok hy, KQ.flat hq S3.ex (.str _)⟩)
    · cases e4
  · rename_i ds
    obtain ⟨a, vs, rfl, s1, a1⟩ := OwnL.lst1 S3.ex (ho.l (n := 1) hm)
    exact .inl ⟨a, vs, rfl, s1, fun p hp => KQ.lst hq S3.ex (dpAll_cut a1 _ _) hp⟩
  · rename_i ds
    obtain ⟨a, vs, rfl, s1, a1⟩ := OwnL.tup (ho.l (n := 1) hm)
    refine .inr (.inl ⟨a, vs, rfl, SqT.of (S3.ex _ _ s1), fun hw => ?_, fun hw p hp => KQ.tup hq S3.ex (dpAll_cut a1 _ _) hp⟩)
    have e5 : cutV vs i j = vs := by
      unfold cutV
      rw [hw.1, hw.2]
      simp
    refine KQ.flat hq S3.ex (.tup s1 ?_)
    have := dpAll_cut a1 i j
    rw [e5] at this
    exact this
/-! ### list(range(..)) -/
theorem dpAll_rng {K : Fr} {H : Hp} (lo hi : Int) : DpAll K H (rgV lo hi) (rngL lo (hi - lo).toNat) := by
  unfold rgV rngL
  generalize List.range (hi - lo).toNat = l
  induction l with
  | nil => exact .nil
  | cons x r ih => exact .cons (.int _) ih
def smallR (j : Int) : Bool := decide (-1000000 ≤ j) && decide (j ≤ 1000000)
theorem smallR_ok {i j : Int} (h1 : smallR i = true) (h2 : smallR j = true) : RgOk i j := by
  unfold smallR at h1 h2
  simp only [Bool.and_eq_true, decide_eq_true_eq] at h1 h2
  unfold RgOk
  refine ⟨by omega, by omega, by omega, by omega, ?_⟩
  have : (2 : Nat) ^ 24 = 16777216 := rfl
  omega
def gLR1 (g : GE) : GE := fun ρ => (g ρ).bind fun p => (asI p.1).bind fun j => if smallR j = true then some (.list (rngL 0 j.toNat), p.2) else none
def gLR2 (ga gb : GE) : GE := fun ρ => (ga ρ).bind fun p => (gb p.2).bind fun q => (asI p.1).bind fun i => (asI q.1).bind fun j => if smallR i = true ∧ smallR j = true then some (.list (rngL i (j - i).toNat), q.2) else none
theorem nd_gLR1 : ND (gLR1 g) := fun ρ d ρ' q => by
  obtain ⟨_, _, q⟩ := Option.bind_eq_some_iff.mp q
  obtain ⟨_, _, q⟩ := Option.bind_eq_some_iff.mp q
  split at q
  · cases q; rfl
  · cases q
theorem nd_gLR2 : ND (gLR2 ga gb) := fun ρ d ρ' q => by
  obtain ⟨_, _, q⟩ := Option.bind_eq_some_iff.mp q
  obtain ⟨_, _, q⟩ := Option.bind_eq_some_iff.mp q
  obtain ⟨_, _, q⟩ := Option.bind_eq_some_iff.mp q
  obtain ⟨_, _, q⟩ := Option.bind_eq_some_iff.mp q
  split at q
  · cases q; rfl
  · cases q
theorem de_lr1 {p2 pos2 : Pos} (hc : X.calm = true) (ha : DE X c a 0 da Ma ga) (hl : X.mg "list" = none) (hm : X.mg "range" = none) (hgl : Gl X "list" := by rfl) (hg : Gl X "range" := by rfl) (na : starEach [a] X.env = (false, eval a X.env) :: starEach [] X.env := by rfl)
    (nb : starEach [.Call (.Name "range" p) [a] [] pos] X.env = (false, eval (.Call (.Name "range" p) [a] [] pos) X.env) :: starEach [] X.env := by rfl) :
    DE X c (.Call (.Name "list" p2) [.Call (.Name "range" p) [a] [] pos] [] pos2) 1 [] Ma (gLR1 ga) := by
  refine PE.imp (pe_listRg hc hgl hl (prg_1 hg hm ha na) nb) fun σ H Q w => ?_
  obtain ⟨A, F, ρ, d, ρ', S, eg, k⟩ := w
  obtain ⟨⟨x, ρ1⟩, e1, eg1⟩ := Option.bind_eq_some_iff.mp eg
  obtain ⟨j, e2, eg2⟩ := Option.bind_eq_some_iff.mp eg1
  clear eg eg1
  have e2' := asI_some e2
  dsimp only at e2'
  subst e2'
  split at eg2
  · rename_i hs
    cases eg2
    refine ⟨A, F, ρ, _, ρ1, S, e1, fun v A1 F1 H1 S1 N1 r1 => ?_⟩
    have hv := r1.froz0
    cases hv
    refine ⟨j, rfl, smallR_ok rfl hs, fun q hq => KQ.lst (fin_op S1 N1 k) S1.ex ?_ hq⟩
    have := dpAll_rng (K := X.K) (H := F1) 0 j
    rw [show (j - 0).toNat = j.toNat by omega] at this
    exact this
  · cases eg2
theorem de_lr2 {p2 pos2 : Pos} (hc : X.calm = true) (ha : DE X c a 0 [] Ma ga) (hb : DE X c b 0 [] Mb gb) (hl : X.mg "list" = none) (hm : X.mg "range" = none) (hgl : Gl X "list" := by rfl) (hg : Gl X "range" := by rfl) (na : starEach [a, b] X.env = (false, eval a X.env) :: starEach [b] X.env := by rfl)
    (nb : starEach [b] X.env = (false, eval b X.env) :: starEach [] X.env := by rfl) (hp : (backTo pos (starEach [b] X.env)).any (·.1) = false := by rfl)
    (nn : starEach [.Call (.Name "range" p) [a, b] [] pos] X.env = (false, eval (.Call (.Name "range" p) [a, b] [] pos) X.env) :: starEach [] X.env := by rfl) :
    DE X c (.Call (.Name "list" p2) [.Call (.Name "range" p) [a, b] [] pos] [] pos2) 1 [] (Ma ++ Mb) (gLR2 ga gb) := by
  refine PE.imp (pe_listRg hc hgl hl (prg_2 hg hm ha hb na nb hp) nn) fun σ H Q w => ?_
  obtain ⟨A, F, ρ, d, ρ', S, eg, k⟩ := w
  obtain ⟨⟨x, ρ1⟩, e1, eg1⟩ := Option.bind_eq_some_iff.mp eg
  obtain ⟨⟨y, ρ2⟩, e2, eg2⟩ := Option.bind_eq_some_iff.mp eg1
  obtain ⟨i, e3, eg3⟩ := Option.bind_eq_some_iff.mp eg2
  obtain ⟨j, e4, eg4⟩ := Option.bind_eq_some_iff.mp eg3
  clear eg eg1 eg2 eg3
  have e3' := asI_some e3
  have e4' := asI_some e4
  dsimp only at e3' e4'
  subst e3'
  subst e4'
  split at eg4
  · rename_i hs
    cases eg4
    refine ⟨A, F, ρ, _, ρ1, S, e1, fun v A1 F1 H1 S1 N1 r1 => ⟨A1, F1, ρ1, _, ρ2, S1, e2, fun u A2 F2 H2 S2 N2 r2 => ?_⟩⟩
    have hv := r1.froz0
    have hu := r2.froz0
    cases hv
    cases hu
    exact ⟨i, j, rfl, rfl, smallR_ok hs.1 hs.2, fun q hq => KQ.lst (fin_op S2 (N1.trans N2) k) S2.ex (dpAll_rng _ _) hq⟩
  · cases eg4
/-! ### xs.reverse() -/
def gRvs (i : Nat) : GE := fun ρ => (getL i ρ).map fun ds => (.none, ρ.set i (some (.list ds.reverse)))
theorem de_rvs {i : Nat} {apos : Pos} (hv : PE X a (tVar i)) (hd : c.dep i = 1 := by rfl) (hbase : attributeBase a "reverse" X.env (eval a X.env) = eval a X.env := by rfl) (hline : (apos.endLine == pos.line) = true := by rfl) :
    DE X c (.Call (.Attribute a "reverse" apos) [] [] pos) 0 [] [i] (gRvs i) := by
  refine PE.imp (pe_bm0 PySem.F.plainAttrs_list PySem.F.slot_list_reverse PySem.F.type_list_reverse mt_reverse hv hbase hline) fun σ H Q w => ?_
  obtain ⟨A, F, ρ, d, ρ', S, eg, k⟩ := w
  obtain ⟨ds, e0, eg⟩ := Option.map_eq_some_iff.mp eg
  have e0 := getL_some e0
  cases eg
  obtain ⟨a0, vs0, s0, hA, h0, _, dp⟩ := own_cell S e0 hd
  obtain ⟨S2, N2⟩ := cell_put S (vs := vs0.reverse) (ds := ds.reverse) hA hd s0 (dpAll_rev dp)
  exact ⟨_, s0, .inl ⟨rfl, vs0, .inl (.inl h0)⟩, a0, vs0, rfl, rfl, h0, k _ A F _ S2 N2 (Res.of_froz .non)⟩
/-! ### enumerate, zip -/
def enumL (ds : List D) : List D := ds.mapIdx fun i d => .tuple [.int i, d]
def giEnum (g : GE) : GI := fun ρ => (g ρ).bind fun p => match p.1 with
  | .list ds => some (enumL ds, p.2)
  | _ => none
theorem di_enum {elts : List Expr} {kk : Nat} {tpos : Pos} (he : DE X c e n1 deps M g) (hm : X.mg "enumerate" = none) (hn : n1 = 0 ∨ n1 = 1 := by decide) (hg : Gl X "enumerate" := by rfl) (hs : starEach [e] X.env = [(false, eval e X.env)] := by rfl) :
    DI X c (.Tuple elts kk tpos) (.Call (.Name "enumerate" p) [e] [] pos) deps M (giEnum g) := by
  refine PI.imp (pi_enum hg hm (pa_cons he pa_nil (by rw [hs]; rfl)) hs) fun σ H R w => ?_
  obtain ⟨A, F, ρ, ds, ρ', S, eg, k⟩ := w
  obtain ⟨⟨d0, ρ1⟩, e1, eg⟩ := Option.bind_eq_some_iff.mp eg
  cases d0 <;> simp only [reduceCtorEq, Option.some.injEq, Prod.mk.injEq] at eg
  rename_i es
  obtain ⟨rfl, rfl⟩ := eg
  refine ⟨A, F, ρ, _, ρ1, S, e1, fun v A1 F1 H1 S1 N1 r1 => ?_⟩
  obtain ⟨B, ho, hB⟩ := id r1
  obtain ⟨a, vs, rfl, s1, a1⟩ := OwnL.lst1 S1.ex (ho.l (n := 1) hn)
  refine ⟨a, vs, rfl, s1, k _ A1 F1 H1 S1 N1 fun A2 F2 H2 ρ2 σ2 M2 N2 S2 hd => ?_⟩
  obtain ⟨B2, ho2, _⟩ := r1.later N2 S2 hd
  obtain ⟨a', ws, e2, s2, a2⟩ := OwnL.lst1 S2.ex (ho2.l (n := 1) hn)
  cases e2
  have hl := dpAll_len a2
  refine ⟨fun i d hi => ?_, ⟨ws, s2, by rw [enumL, List.length_mapIdx]; omega⟩⟩
  rw [enumL, List.getElem?_mapIdx] at hi
  obtain ⟨d1, h1, rfl⟩ := Option.map_eq_some_iff.mp hi
  obtain ⟨v, g1, g2⟩ := dpAll_get a2 h1
  refine ⟨⟨ws, v, s2, g1⟩, fun x H3 y => ?_⟩
  obtain ⟨T, y1, rfl, hT, rfl, hy⟩ := y
  have := hy ws s2
  rw [g1] at this
  cases this
  have gr := Gr.newTup (o := .tup [.int (i : Nat), v]) S2.ex hT
  exact ⟨_, gr, .tup upd_same (.cons (.int _) (.cons (Dp.ex gr.exF _ _ g2) .nil))⟩
def zipL (xs ys : List D) : List D := List.zipWith (fun x y => .tuple [x, y]) xs ys
def giZip (ga gb : GE) : GI := fun ρ => (ga ρ).bind fun p => (gb p.2).bind fun q => match p.1, q.1 with
  | .list xs, .list ys => some (zipL xs ys, q.2)
  | .tuple xs, .tuple ys => some (zipL xs ys, q.2)
  | _, _ => none
theorem di_zip {elts : List Expr} {kk : Nat} {tpos : Pos} (ha : DE X c a n1 da Ma ga) (hb : DE X c b n2 db Mb gb) (hm : X.mg "zip" = none) (hn1 : n1 = 0 ∨ n1 = 1 := by decide) (hn2 : n2 = 0 ∨ n2 = 1 := by decide) (hdd : ∀ i ∈ da, i ∉ Mb := by decide) (hg : Gl X "zip" := by rfl)
    (hs : starEach [a, b] X.env = (false, eval a X.env) :: starEach [b] X.env := by rfl) (hs2 : starEach [b] X.env = (false, eval b X.env) :: starEach [] X.env := by rfl) (hpl : (backTo pos (starEach [b] X.env)).any (·.1) = false := by rfl) :
    DI X c (.Tuple elts kk tpos) (.Call (.Name "zip" p) [a, b] [] pos) (da ++ db) (Ma ++ Mb) (giZip ga gb) := by
  refine PI.imp (RZ.pi_zipA hg hm (pa_cons ha (pa_cons hb pa_nil hs2) hs) hs hpl) fun σ H R w => ?_
  obtain ⟨A, F, ρ, ds, ρ', S, eg, k⟩ := w
  obtain ⟨⟨d0, ρ1⟩, e1, eg1⟩ := Option.bind_eq_some_iff.mp eg
  obtain ⟨⟨d1, ρ2⟩, e2, eg2⟩ := Option.bind_eq_some_iff.mp eg1
  clear eg eg1
  refine ⟨A, F, ρ, d0, ρ1, S, e1, fun v A1 F1 H1 S1 N1 r1 => ⟨A1, F1, ρ1, d1, ρ2, S1, e2, fun u A2 F2 H2 S2 N2 r2 => ?_⟩⟩
  have r1' := r1.later N2 S2 hdd
  cases d0 <;> cases d1 <;> simp only [reduceCtorEq, Option.some.injEq, Prod.mk.injEq] at eg2
  · rename_i xs ys
    obtain ⟨rfl, rfl⟩ := eg2
    obtain ⟨B, ho, hB⟩ := id r1'
    obtain ⟨C, hp, hC⟩ := id r2
    obtain ⟨a, vs, rfl, s1, a1⟩ := OwnL.lst1 S2.ex (ho.l (n := 1) hn1)
    obtain ⟨b, us, rfl, s2, a2⟩ := OwnL.lst1 S2.ex (hp.l (n := 1) hn2)
    refine ⟨a, b, vs, us, rfl, .inl ⟨s1, s2, k _ A2 F2 H2 S2 (N1.trans N2) fun A3 F3 H3 ρ3 σ3 M3 N3 S3 hd => ?_⟩⟩
    obtain ⟨B3, ho3, _⟩ := r1'.later N3 S3 (fun i hi => hd i (List.mem_append_left _ hi))
    obtain ⟨C3, hp3, _⟩ := r2.later N3 S3 (fun i hi => hd i (List.mem_append_right _ hi))
    obtain ⟨a', vs', e3, t1, b1⟩ := OwnL.lst1 S3.ex (ho3.l (n := 1) hn1)
    obtain ⟨b', us', e4, t2, b2⟩ := OwnL.lst1 S3.ex (hp3.l (n := 1) hn2)
    cases e3
    cases e4
    have l1 := dpAll_len b1
    have l2 := dpAll_len b2
    refine ⟨fun i d hi => ?_, ⟨vs', us', t1, t2, by rw [zipL, List.length_zipWith]; omega⟩⟩
    rw [zipL, List.getElem?_zipWith] at hi
    cases q1 : xs[i]? with
    | none => rw [q1] at hi; cases hi
    | some x1 =>
    cases q2 : ys[i]? with
    | none => rw [q1, q2] at hi; cases hi
    | some x2 =>
    rw [q1, q2] at hi
    cases hi
    obtain ⟨v1, g1, k1⟩ := dpAll_get b1 q1
    obtain ⟨v2, g2, k2⟩ := dpAll_get b2 q2
    refine ⟨⟨vs', us', v1, v2, t1, t2, g1, g2⟩, fun x H4 y => ?_⟩
    obtain ⟨T, y1, y2, rfl, hT, rfl, hy1, hy2⟩ := y
    have z1 := hy1 vs' t1
    rw [g1] at z1
    cases z1
    have z2 := hy2 us' t2
    rw [g2] at z2
    cases z2
    have gr := Gr.newTup (o := .tup [v1, v2]) S3.ex hT
    exact ⟨_, gr, .tup upd_same (.cons (Dp.ex gr.exF _ _ k1) (.cons (Dp.ex gr.exF _ _ k2) .nil))⟩
  · rename_i xs ys
    obtain ⟨rfl, rfl⟩ := eg2
    obtain ⟨B, ho, hB⟩ := id r1'
    obtain ⟨C, hp, hC⟩ := id r2
    obtain ⟨a, vs, rfl, s1, a1⟩ := OwnL.tup (ho.l (n := n1) (.inr rfl))
    obtain ⟨b, us, rfl, s2, a2⟩ := OwnL.tup (hp.l (n := n2) (.inr rfl))
    refine ⟨a, b, vs, us, rfl, .inr ⟨SqT.of (S2.ex _ _ s1), SqT.of (S2.ex _ _ s2), k _ A2 F2 H2 S2 (N1.trans N2) fun A3 F3 H3 ρ3 σ3 M3 N3 S3 hd => ?_⟩⟩
    have t1' := N3.exF _ _ s1
    have t2' := N3.exF _ _ s2
    have b1 := Dp.exAll N3.exF _ _ a1
    have b2 := Dp.exAll N3.exF _ _ a2
    have t1 : SqT X.K H3 a vs := SqT.of (S3.ex _ _ t1')
    have t2 : SqT X.K H3 b us := SqT.of (S3.ex _ _ t2')
    have l1 := dpAll_len b1
    have l2 := dpAll_len b2
    refine ⟨fun i d hi => ?_, ⟨vs, us, t1, t2, by rw [zipL, List.length_zipWith]; omega⟩⟩
    rw [zipL, List.getElem?_zipWith] at hi
    cases q1 : xs[i]? with
    | none => rw [q1] at hi; cases hi
    | some x1 =>
    cases q2 : ys[i]? with
    | none => rw [q1, q2] at hi; cases hi
    | some x2 =>
    rw [q1, q2] at hi
    cases hi
    obtain ⟨v1, g1, k1⟩ := dpAll_get b1 q1
    obtain ⟨v2, g2, k2⟩ := dpAll_get b2 q2
    refine ⟨⟨vs, us, v1, v2, t1, t2, g1, g2⟩, fun x H4 y => ?_⟩
    obtain ⟨T, y1, y2, rfl, hT, rfl, hy1, hy2⟩ := y
    have z1 := hy1 vs t1
    rw [g1] at z1
    cases z1
    have z2 := hy2 us t2
    rw [g2] at z2
    cases z2
    have gr := Gr.newTup (o := .tup [v1, v2]) S3.ex hT
    exact ⟨_, gr, .tup upd_same (.cons (Dp.ex gr.exF _ _ k1) (.cons (Dp.ex gr.exF _ _ k2) .nil))⟩
end
end DL

set_option Elab.async false
set_option linter.all false
set_option maxRecDepth 100000
set_option maxHeartbeats 4000000
/-! DL7: comprehensions of two walks; inside of them nothing is changed. -/
namespace DL
open PySem L2 PyProof.Rows
/-- what is walked, by the cells B that it stands in -/
def Its2 (K : Fr) (J : It) (ds : List D) (B : List Addr) (F H : Hp) : Prop := ∀ F2 H2, Ex F F2 → Ex F2 H2 → (∀ a ∈ B, H2 a = H a ∧ F2 a = none) →
  (∀ i d, ds[i]? = some d → J.go i H2 ∧ ∀ x H3, J.yld i H2 x H3 → ∃ F3, Gr F2 H2 F3 H3 ∧ Dp K F3 x d) ∧ J.stop ds.length H2
def tI2 (K : Fr) (c : Cfg) (g : GI) : TI := fun σ H R => ∃ A F ρ ds ρ', StOk K c A ρ F σ H ∧ g ρ = some (ds, ρ') ∧
  ∀ J A' F' H' B, StOk K c A' ρ' F' σ H' → Nxt [] A F H A' F' H' → (∀ a ∈ B, H' a ≠ none ∧ F' a = none ∧ (((∃ i, a ∈ A i) ∨ H a = none) ∨ ∃ i, a ∈ A' i)) → Its2 K J ds B F' H' → R J H'
def DI2 (X : Cx) (c : Cfg) (tg e : Expr) (g : GI) : Prop := PI X tg e (tI2 X.K c g)
section
variable {X : Cx} {c : Cfg} {e a b tg elt iter tg1 iter1 : Expr} {ifs ifs1 : List Expr} {es : List Expr} {n n1 n2 n3 m1 m2 : Nat} {da db Ma Mb M M2 Mc Me deps deps1 W W1 : List Nat} {ga gb g : GE} {pos p : Pos} {st : Stmt} {rest : List Stmt} {f h : GS}
theorem di2_seq (he : DE X c e n1 deps [] g) (hm : n1 = 0 ∨ n1 = 1 := by decide) : DI2 X c tg e (giS g) := by
  refine PI.imp (pi_seq he) fun σ H R w => ?_
  obtain ⟨A, F, ρ, ds, ρ', S, eg, k⟩ := w
  obtain ⟨⟨d0, ρ1⟩, e1, eg⟩ := Option.bind_eq_some_iff.mp eg
  obtain ⟨ds', e2, eg⟩ := Option.map_eq_some_iff.mp eg
  cases eg
  refine ⟨A, F, ρ, d0, ρ1, S, e1, fun v A1 F1 H1 S1 N1 r1 => ?_⟩
  cases d0 <;> simp only [itemsD, Option.some.injEq] at e2 <;> first | cases e2 | skip
  · rename_i ds
    obtain ⟨B, ho, hB⟩ := id r1
    have hcs := ho.cells
    obtain ⟨a, vs, rfl, s1, a1⟩ := OwnL.lst1 S1.ex (ho.l (n := 1) hm)
    refine .inl ⟨a, rfl, ⟨vs, s1⟩, k _ A1 F1 H1 B S1 N1 (fun x hx => ⟨(hcs x hx).1, (hcs x hx).2, (hB x hx).elim (fun z => .inl z.2) fun ⟨i, _, z⟩ => .inr ⟨i, z⟩⟩) fun F2 H2 xF x2 hk => ?_⟩
    have ho2 := ho.later (F2 := F2) (H2 := H2) xF hk
    obtain ⟨a', ws, e2, s2, a2⟩ := OwnL.lst1 x2 (ho2.l (n := 1) hm)
    cases e2
    refine ⟨fun i d hi => ?_, ⟨ws, s2, Nat.le_of_eq (dpAll_len a2)⟩⟩
    obtain ⟨v, h1, h2⟩ := dpAll_get a2 hi
    refine ⟨⟨ws, v, s2, h1⟩, fun x H3 y => ?_⟩
    obtain ⟨e3, y⟩ := y
    subst e3
    have := y ws s2
    rw [h1] at this
    cases this
    exact ⟨F2, Gr.refl x2, h2⟩
  · rename_i ds
    obtain ⟨B, ho, hB⟩ := id r1
    obtain ⟨a, vs, rfl, s1, a1⟩ := OwnL.tup (ho.l (n := n1) (.inr rfl))
    refine .inr ⟨_, rfl, ⟨_, SqT.of (S1.ex _ _ s1)⟩, k _ A1 F1 H1 [] S1 N1 (by simp) fun F2 H2 xF x2 hk => ?_⟩
    have s2 := xF _ _ s1
    have a2 := Dp.exAll xF _ _ a1
    refine ⟨fun i d hi => ?_, ⟨_, SqT.of (x2 _ _ s2), Nat.le_of_eq (dpAll_len a2)⟩⟩
    obtain ⟨v, h1, h2⟩ := dpAll_get a2 hi
    refine ⟨⟨_, v, SqT.of (x2 _ _ s2), h1⟩, fun x H3 y => ?_⟩
    obtain ⟨e3, y⟩ := y
    subst e3
    have := y _ (SqT.of (x2 _ _ s2))
    rw [h1] at this
    cases this
    exact ⟨F2, Gr.refl x2, h2⟩
theorem its2_range {K : Fr} {F H : Hp} {lo : Int} {m : Nat} : Its2 K (Itr lo m) (rngL lo m) [] F H := fun F2 H2 xF x2 hk => by
  refine ⟨fun i d hi => ?_, ?_⟩
  · unfold rngL at hi
    rw [List.getElem?_map] at hi
    cases q : (List.range m)[i]? with
    | none => rw [q] at hi; cases hi
    | some j =>
      rw [q] at hi
      cases hi
      obtain ⟨h1, h2⟩ := List.getElem?_eq_some_iff.mp q
      rw [List.getElem_range] at h2
      subst h2
      refine ⟨show i < m by simpa using h1, fun x H3 y => ?_⟩
      obtain ⟨e3, y⟩ := y
      subst e3 y
      exact ⟨F2, Gr.refl x2, .int _⟩
  · show m ≤ (rngL lo m).length
    simp [rngL]
theorem di2_rng1 (ha : DE X c a 0 da [] ga) (hm : X.mg "range" = none) (hg : Gl X "range" := by rfl) (hs : starEach [a] X.env = [(false, eval a X.env)] := by rfl) : DI2 X c tg (.Call (.Name "range" p) [a] [] pos) (giR1 ga) := by
  refine PI.imp (pi_range1 hg hm (pa_cons ha pa_nil hs) hs) fun σ H R w => ?_
  obtain ⟨A, F, ρ, ds, ρ', S, eg, k⟩ := w
  unfold giR1 at eg
  cases e1 : ga ρ with
  | none => rw [e1] at eg; cases eg
  | some q =>
    obtain ⟨d, ρ1⟩ := q
    rw [e1] at eg
    cases d <;> simp only [Option.bind_some] at eg <;> first | cases eg | skip
    split at eg
    · rename_i j hj
      cases eg
      refine ⟨A, F, ρ, .int j, _, S, e1, fun v A1 F1 H1 S1 N1 r1 => ?_⟩
      have hf := r1.froz0
      cases hf
      exact ⟨j, rfl, (rngOk_ok hj).1, (rngOk_ok hj).2, k _ A1 F1 H1 [] S1 N1 (by simp) its2_range⟩
    · cases eg
theorem di2_rng2 (ha : DE X c a 0 da [] ga) (hb : DE X c b 0 db [] gb) (hm : X.mg "range" = none) (hg : Gl X "range" := by rfl) (hs : starEach [a, b] X.env = [(false, eval a X.env), (false, eval b X.env)] := by rfl) (hs2 : starEach [b] X.env = [(false, eval b X.env)] := by rfl)
    (hs3 : starEach (a :: [b]) X.env = (false, eval a X.env) :: starEach [b] X.env := by rfl) : DI2 X c tg (.Call (.Name "range" p) [a, b] [] pos) (giR2 ga gb) := by
  refine PI.imp (pi_range2 hg hm (pa_cons ha (pa_cons hb pa_nil hs2) hs3) hs hs2) fun σ H R w => ?_
  obtain ⟨A, F, ρ, ds, ρ', S, eg, k⟩ := w
  unfold giR2 at eg
  cases e1 : ga ρ with
  | none => rw [e1] at eg; cases eg
  | some q =>
    obtain ⟨d, ρ1⟩ := q
    rw [e1] at eg
    simp only [Option.bind_some] at eg
    cases e2 : gb ρ1 with
    | none => rw [e2] at eg; cases eg
    | some q =>
      obtain ⟨d', ρ2⟩ := q
      rw [e2] at eg
      simp only [Option.bind_some] at eg
      cases d <;> cases d' <;> simp only [] at eg <;> first | cases eg | skip
      split at eg
      · rename_i i j hj
        cases eg
        refine ⟨A, F, ρ, .int i, ρ1, S, e1, fun v A1 F1 H1 S1 N1 r1 => ?_⟩
        have hf := r1.froz0
        cases hf
        refine ⟨A1, F1, ρ1, .int j, _, S1, e2, fun v A2 F2 H2 S2 N2 r2 => ?_⟩
        have hf := r2.froz0
        cases hf
        exact ⟨i, j, rfl, ⟨(rngOk_ok hj.1).1, (rngOk_ok hj.1).2, (rngOk_ok hj.2).1, (rngOk_ok hj.2).2⟩, k _ A2 F2 H2 [] S2 (N1.after0 N2) (by simp) its2_range⟩
      · cases eg
def lc2L (own own1 : List Nat) (gt : GG) (gc : GT) (gi1 : GI) (gt1 : GG) (gc1 : GT) (ge : GE) : List D → Env → Option (List D × Env)
  | [], ρ => some ([], ρ)
  | d :: ds, ρ => (gt ρ d).bind fun ρ1 => (gc ρ1).bind fun p => if p.1 = true then (gi1 p.2).bind fun q => (lcL own1 gt1 gc1 ge q.1 (wipeE q.2 own1)).bind fun r => (lc2L own own1 gt gc gi1 gt1 gc1 ge ds (wipeE r.2 own)).map fun z => (r.1 ++ z.1, z.2)
    else lc2L own own1 gt gc gi1 gt1 gc1 ge ds (wipeE p.2 own)
def gLc2 (own own1 : List Nat) (gi : GI) (gt : GG) (gc : GT) (gi1 : GI) (gt1 : GG) (gc1 : GT) (ge : GE) : GE := fun ρ => (gi ρ).bind fun p => (lc2L own own1 gt gc gi1 gt1 gc1 ge p.1 (wipeE p.2 own)).bind fun r => if r.1.length ≤ lim then some (.list r.1, backE p.2 r.2 own) else none
theorem nd_gLc2 {own own1 : List Nat} {gi : GI} {gt : GG} {gc : GT} {gi1 : GI} {gt1 : GG} {gc1 : GT} {ge : GE} : ND (gLc2 own own1 gi gt gc gi1 gt1 gc1 ge) := fun ρ d ρ' h => by
  obtain ⟨_, _, h⟩ := Option.bind_eq_some_iff.mp h
  obtain ⟨_, _, h⟩ := Option.bind_eq_some_iff.mp h
  split at h
  · cases h; rfl
  · cases h
theorem wipe_wipe {σ : L2.St} {vs vs1 : List Nat} (h : ∀ i ∈ vs1, i ∈ vs) : wipe (wipe σ vs1) vs = wipe σ vs := by
  refine wipe_eq (W := vs) ⟨by simp [wipe_length], fun i hi => ?_⟩ fun i hi => hi
  rw [wipe_out (vs := vs) hi, wipe_out fun z => hi (h i z)]
/-- the list Dd of a comprehension grows -/
theorem grow_st {K : Fr} {A : Nat → List Addr} {ρ : Env} {F H : Hp} {σ : L2.St} {Dd : Addr} {ws : List V} (S : StOk K c A ρ F σ H) (hF : F Dd = none) (hA : ∀ i, Dd ∉ A i) :
    StOk K c A ρ F σ (upd H Dd (.lst ws)) := by
  refine ⟨fun a o q => ?_, S.len, fun j d' ej => ?_, S.no, S.dis⟩
  · by_cases ha : a = Dd
    · subst ha
      rw [hF] at q
      cases q
    · rw [upd_ne ha]
      exact S.ex a o q
  · obtain ⟨w, h1, h2⟩ := S.own j d' ej
    exact ⟨w, h1, h2.later (Ex.refl _) fun a ha => ⟨upd_ne fun z => hA j (by rw [← z]; exact ha), (h2.cells a ha).2⟩⟩
/-- .. and what stood elsewhere keeps: Dd was made behind A1 F1 H1 -/
theorem grow_nx {A A1 : Nat → List Addr} {F F1 H H1 : Hp} {Dd : Addr} {ws : List V} (N : Nxt M A1 F1 H1 A F H) (hn : H1 Dd = none) (hA : ∀ i, Dd ∉ A1 i) : Nxt M A1 F1 H1 A F (upd H Dd (.lst ws)) := by
  refine ⟨N.exF, fun a ha => ?_, fun a o ha hn' => ?_, fun j hj => ?_, N.src⟩
  · by_cases hz : a = Dd
    · rw [hz, upd_same]
      simp
    · rw [upd_ne hz]
      exact N.grow a ha
  · obtain ⟨k1, k2, k3⟩ := N.keep a o ha hn'
    refine ⟨?_, k2, k3⟩
    rw [upd_ne fun z => ?_]
    · exact k1
    · rw [z, hn] at ha
      cases ha
  · obtain ⟨k1, k2⟩ := N.own j hj
    refine ⟨k1, fun a ha => ?_⟩
    rw [upd_ne fun z => hA j (by rw [← z]; exact ha)]
    exact k2 a ha
/-- a cell that is not frozen stays as it is where nothing is changed -/
theorem nxt_cell {K : Fr} {A A' : Nat → List Addr} {ρ' : Env} {F F' H H' : Hp} {σ : L2.St} {a : Addr} (N : Nxt [] A F H A' F' H') (S' : StOk K c A' ρ' F' σ H') (h : H a ≠ none) (hF : F a = none) : H' a = H a ∧ F' a = none := by
  by_cases q : ∃ i, a ∈ A i
  · obtain ⟨i, hi⟩ := q
    obtain ⟨k1, k2⟩ := N.own i (by simp)
    exact ⟨k2 a hi, (S'.cell (i := i) (by rw [k1]; exact hi)).2⟩
  · cases z : H a with
    | none => exact absurd z h
    | some o =>
      obtain ⟨k1, _, k3⟩ := N.keep a o z fun i hi => q ⟨i, hi⟩
      exact ⟨k1, k3 hF⟩
theorem lc2_read {K : Fr} {gi gi1 : GI} {gt gt1 : GG} {gc gc1 : GT} {ge : GE} {own own1 : List Nat} {Q : VK} {σ : L2.St} {H : Hp} (hown : ∀ i ∈ own, c.dep i = 0) (hW : ∀ i ∈ W, i ∈ own) (hv : ∀ i ∈ own1, i ∈ own) (hW1 : ∀ i ∈ W1, i ∈ own1)
    (w : tD K c 1 [] Ma (gLc2 own own1 gi gt gc gi1 gt1 gc1 ge) σ H Q) : tLc2 (tI K c deps Ma gi) (tG K c W gt) (tT K c [] gc) (tI2 K c gi1) (tG K c W1 gt1) (tT K c [] gc1) (tD K c 0 [] [] ge) own own1 σ H Q := by
  obtain ⟨A, F, ρ, d, ρ', S, eg, k⟩ := w
  obtain ⟨⟨ds, ρ1⟩, e1, eg⟩ := Option.bind_eq_some_iff.mp eg
  obtain ⟨⟨xs, ρ2⟩, e2, eg⟩ := Option.bind_eq_some_iff.mp eg
  split at eg
  · rename_i hlim
    cases eg
    dsimp only at e2 hlim k
    refine ⟨A, F, ρ, ds, ρ1, S, e1, fun J A1 F1 H1 S1 N1 its => ?_⟩
    intro Dd hDd
    have hFD : F1 Dd = none := ex_none S1.ex hDd
    have hAD : ∀ i, Dd ∉ A1 i := fun i hi => (S1.cell hi).1 hDd
    have gr0 : Gr F1 H1 F1 (upd H1 Dd (.lst [])) := Gr.newLst S1.ex hDd
    have S1' := S1.grown gr0
    have N1' : Nxt [] A1 F1 H1 A1 F1 (upd H1 Dd (.lst [])) := Nxt.grown gr0 fun i a ha => (S1.cell ha).1
    refine ⟨fun i m H' => m = ds.length - i ∧ i ≤ ds.length ∧ ∃ A' F' ρ' acc vs r, StOk K c A' ρ' F' (wipe σ own) H' ∧ Nxt [] A1 F1 H1 A' F' H' ∧ H' Dd = some (.lst vs) ∧ F' Dd = none ∧ (∀ j, Dd ∉ A' j) ∧ DpAll K F' vs acc ∧ lc2L own own1 gt gc gi1 gt1 gc1 ge (ds.drop i) ρ' = some r ∧ acc ++ r.1 = xs ∧ r.2 = ρ2,
      ⟨_, rfl, Nat.zero_le _, A1, F1, wipeE ρ1 own, [], [], _, S1'.wiped hown, N1', upd_same, hFD, hAD, .nil, by simpa using e2, rfl, rfl⟩, ?_⟩
    rintro i m H2 ⟨rfl, hil, A2, F2, ρ3, acc, vs, r, S2, N2, hD2, hF2, hA2, hacc, eg2, ex, er⟩
    have it2 := its A2 F2 H2 ρ3 _ [] N2 S2 (by simp)
    by_cases hlt : i < ds.length
    · refine .inr ?_
      have hdi : ds[i]? = some ds[i] := List.getElem?_eq_getElem hlt
      obtain ⟨hgo, hy⟩ := it2.1 i _ hdi
      rw [List.drop_eq_getElem_cons hlt] at eg2
      simp only [lc2L] at eg2
      obtain ⟨ρ4, e3, eg2⟩ := Option.bind_eq_some_iff.mp eg2
      obtain ⟨⟨bb, ρ5⟩, e4, eg2⟩ := Option.bind_eq_some_iff.mp eg2
      refine ⟨hgo, fun H' => i + 1 ≤ ds.length ∧ ∃ A' F' ρ' acc vs r, StOk K c A' ρ' F' (wipe σ own) H' ∧ Nxt [] A1 F1 H1 A' F' H' ∧ H' Dd = some (.lst vs) ∧ F' Dd = none ∧ (∀ j, Dd ∉ A' j) ∧ DpAll K F' vs acc ∧ lc2L own own1 gt gc gi1 gt1 gc1 ge (ds.drop (i + 1)) ρ' = some r ∧ acc ++ r.1 = xs ∧ r.2 = ρ2,
        fun H' w => ⟨ds.length - (i + 1), by omega, rfl, w⟩, fun x H3 y => ?_⟩
      obtain ⟨F3, gr, hdp⟩ := hy x H3 y
      have S3 := S2.grown gr
      have N3 : Nxt [] A2 F2 H2 A2 F3 H3 := Nxt.grown gr fun i a ha => (S2.cell ha).1
      have hD3 : H3 Dd = some (.lst vs) := gr.exH _ _ hD2
      have hF3 : F3 Dd = none := (gr.old Dd (by rw [hD2]; simp)).trans hF2
      refine ⟨A2, F3, ρ3, ds[i], ρ4, S3, hdp, e3, fun σ4 S4 o4 => ?_⟩
      have hw := wipe_eq o4 hW
      refine ⟨hw, A2, F3, ρ4, bb, ρ5, S4, e4, fun A5 F5 H5 S5 N5 => ?_⟩
      obtain ⟨hD5, hA5, hF5⟩ := N5.keep Dd _ hD3 hA2
      have hF5 := hF5 hF3
      have hacc5 := Dp.exAll (gr.exF.trans N5.exF) _ _ hacc
      have N25 : Nxt [] A1 F1 H1 A5 F5 H5 := (N2.after0 N3).after0 N5
      cases bb with
      | false =>
        rw [if_neg Bool.false_ne_true] at eg2
        show i + 1 ≤ ds.length ∧ _
        exact ⟨hlt, A5, F5, wipeE ρ5 own, acc, vs, r, by rw [← hw]; exact S5.wiped hown, N25, hD5, hF5, hA5, hacc5, eg2, ex, er⟩
      | true =>
        rw [if_pos rfl] at eg2
        obtain ⟨⟨es, ρ6⟩, e6, eg2⟩ := Option.bind_eq_some_iff.mp eg2
        obtain ⟨⟨ys, ρ7⟩, e7, eg2⟩ := Option.bind_eq_some_iff.mp eg2
        obtain ⟨⟨zs, ρ8⟩, e8, eg2⟩ := Option.map_eq_some_iff.mp eg2
        subst eg2
        dsimp only at e7 e8 ex er
        show tI2 K c gi1 σ4 H5 _
        refine ⟨A5, F5, ρ5, es, ρ6, S5, e6, fun J1 A6 F6 H6 B S6 N6 hB its1 => ?_⟩
        obtain ⟨hD6, hA6, hF6⟩ := N6.keep Dd _ hD5 hA5
        have hF6 := hF6 hF5
        have hacc6 := Dp.exAll N6.exF _ _ hacc5
        have N26 := N25.after0 N6
        have hBD : ∀ a ∈ B, a ≠ Dd := fun a ha z => by
          subst z
          obtain ⟨_, _, q⟩ := hB a ha
          rcases q with (⟨i, q⟩ | q) | ⟨i, q⟩
          · exact hA5 i q
          · rw [hD5] at q; cases q
          · exact hA6 i q
        have hown1 : ∀ i ∈ own1, c.dep i = 0 := fun i hi => hown i (hv i hi)
        refine ⟨fun j k H' => k = es.length - j ∧ j ≤ es.length ∧ ∃ A' F' ρ' acc' vs' r, StOk K c A' ρ' F' (wipe σ4 own1) H' ∧ Nxt [] A1 F1 H1 A' F' H' ∧ (Ex F6 F' ∧ ∀ a ∈ B, H' a = H6 a ∧ F' a = none) ∧ H' Dd = some (.lst vs') ∧ F' Dd = none ∧ (∀ j, Dd ∉ A' j) ∧ DpAll K F' vs' acc' ∧ lcL own1 gt1 gc1 ge (es.drop j) ρ' = some r ∧ acc' ++ r.1 = acc ++ ys ∧ r.2 = ρ7,
          ⟨_, rfl, Nat.zero_le _, A6, F6, wipeE ρ6 own1, acc, vs, _, S6.wiped hown1, N26, ⟨Ex.refl _, fun a ha => ⟨rfl, (hB a ha).2.1⟩⟩, hD6, hF6, hA6, hacc6, by simpa using e7, rfl, rfl⟩, ?_⟩
        rintro j k' H7 ⟨rfl, hjl, A7, F7, ρ9, acc7, vs7, r7, S7, N7, ⟨x67, hk7⟩, hD7, hF7, hA7, hacc7, eg7, ex7, er7⟩
        have it7 := its1 F7 H7 x67 S7.ex hk7
        by_cases hjt : j < es.length
        · refine .inr ?_
          have hdj : es[j]? = some es[j] := List.getElem?_eq_getElem hjt
          obtain ⟨hgo, hy⟩ := it7.1 j _ hdj
          rw [List.drop_eq_getElem_cons hjt] at eg7
          simp only [lcL] at eg7
          obtain ⟨ρ10, f3, eg7⟩ := Option.bind_eq_some_iff.mp eg7
          obtain ⟨⟨b1, ρ11⟩, f4, eg7⟩ := Option.bind_eq_some_iff.mp eg7
          refine ⟨hgo, fun H' => j + 1 ≤ es.length ∧ ∃ A' F' ρ' acc' vs' r, StOk K c A' ρ' F' (wipe σ4 own1) H' ∧ Nxt [] A1 F1 H1 A' F' H' ∧ (Ex F6 F' ∧ ∀ a ∈ B, H' a = H6 a ∧ F' a = none) ∧ H' Dd = some (.lst vs') ∧ F' Dd = none ∧ (∀ j, Dd ∉ A' j) ∧ DpAll K F' vs' acc' ∧ lcL own1 gt1 gc1 ge (es.drop (j + 1)) ρ' = some r ∧ acc' ++ r.1 = acc ++ ys ∧ r.2 = ρ7,
            fun H' w => ⟨es.length - (j + 1), by omega, rfl, w⟩, fun x8 H8 y8 => ?_⟩
          obtain ⟨F8, gr8, hdp8⟩ := hy x8 H8 y8
          have S8 := S7.grown gr8
          have N78 : Nxt [] A7 F7 H7 A7 F8 H8 := Nxt.grown gr8 fun i a ha => (S7.cell ha).1
          have hD8 : H8 Dd = some (.lst vs7) := gr8.exH _ _ hD7
          have hF8 : F8 Dd = none := (gr8.old Dd (by rw [hD7]; simp)).trans hF7
          have hk8 : ∀ a ∈ B, H8 a = H6 a ∧ F8 a = none := fun a ha => by
            obtain ⟨q1, q2⟩ := nxt_cell N78 S8 (by rw [(hk7 a ha).1]; exact (hB a ha).1) (hk7 a ha).2
            exact ⟨q1.trans (hk7 a ha).1, q2⟩
          refine ⟨A7, F8, ρ9, es[j], ρ10, S8, hdp8, f3, fun σ9 S9 o9 => ?_⟩
          have hw9 := wipe_eq o9 hW1
          refine ⟨hw9, A7, F8, ρ10, b1, ρ11, S9, f4, fun A10 F10 H10 S10 N10 => ?_⟩
          obtain ⟨hD10, hA10, hF10⟩ := N10.keep Dd _ hD8 hA7
          have hF10 := hF10 hF8
          have hacc10 := Dp.exAll (gr8.exF.trans N10.exF) _ _ hacc7
          have N110 : Nxt [] A1 F1 H1 A10 F10 H10 := (N7.after0 N78).after0 N10
          have x610 : Ex F6 F10 := x67.trans (gr8.exF.trans N10.exF)
          have hk10 : ∀ a ∈ B, H10 a = H6 a ∧ F10 a = none := fun a ha => by
            obtain ⟨q1, q2⟩ := nxt_cell N10 S10 (by rw [(hk8 a ha).1]; exact (hB a ha).1) (hk8 a ha).2
            exact ⟨q1.trans (hk8 a ha).1, q2⟩
          cases b1 with
          | false =>
            rw [if_neg Bool.false_ne_true] at eg7
            show j + 1 ≤ es.length ∧ _
            exact ⟨hjt, A10, F10, wipeE ρ11 own1, acc7, vs7, r7, by rw [← hw9]; exact S10.wiped hown1, N110, ⟨x610, hk10⟩, hD10, hF10, hA10, hacc10, eg7, ex7, er7⟩
          | true =>
            rw [if_pos rfl] at eg7
            obtain ⟨⟨xd, ρ12⟩, f6, eg7⟩ := Option.bind_eq_some_iff.mp eg7
            obtain ⟨⟨us, ρ13⟩, f7, eg7⟩ := Option.map_eq_some_iff.mp eg7
            subst eg7
            dsimp only at f7 ex7 er7
            show tD K c 0 [] [] ge σ9 H10 _
            refine ⟨A10, F10, ρ11, xd, ρ12, S10, f6, fun v A11 F11 H11 S11 N11 r11 => ?_⟩
            obtain ⟨hD11, hA11, hF11⟩ := N11.keep Dd _ hD10 hA10
            have hF11 := hF11 hF10
            have hx := r11.froz0
            have hk11 : ∀ a ∈ B, H11 a = H6 a ∧ F11 a = none := fun a ha => by
              obtain ⟨q1, q2⟩ := nxt_cell N11 S11 (by rw [(hk10 a ha).1]; exact (hB a ha).1) (hk10 a ha).2
              exact ⟨q1.trans (hk10 a ha).1, q2⟩
            have hl : vs7.length ≤ lim := by
              have l1 := dpAll_len hacc7
              have l2 := congrArg List.length ex7
              have l3 := congrArg List.length ex
              simp only [List.length_append, List.length_cons] at l2 l3
              omega
            refine ⟨vs7, hD11, lim_lt hl, hjt, A11, F11, wipeE ρ12 own1, acc7 ++ [xd], vs7 ++ [v], (us, ρ13), ?_, ?_, ⟨x610.trans N11.exF, fun a ha => ⟨?_, (hk11 a ha).2⟩⟩, upd_same, hF11, hA11, dpAll_append (Dp.exAll N11.exF _ _ hacc10) (.cons hx .nil), f7, by simpa using ex7, er7⟩
            · rw [← hw9]
              exact (grow_st S11 hF11 hA11).wiped hown1
            · exact grow_nx (N110.after0 N11) hDd hAD
            · rw [upd_ne (hBD a ha)]
              exact (hk11 a ha).1
        · have e5 : j = es.length := by omega
          subst e5
          rw [List.drop_length] at eg7
          cases eg7
          simp only [List.append_nil] at ex7
          have er7' : ρ9 = ρ7 := er7
          subst er7'
          subst ex7
          refine .inl ⟨it7.2, hlt, A7, F7, wipeE ρ9 own, acc ++ ys, vs7, (zs, ρ8), ?_, N7, hD7, hF7, hA7, hacc7, e8, by simpa using ex, er⟩
          have := S7.wiped hown
          rw [wipe_wipe hv, hw] at this
          exact this
    · have e5 : i = ds.length := by omega
      subst e5
      rw [List.drop_length] at eg2
      cases eg2
      simp only [List.append_nil] at ex
      subst ex
      have er' : ρ3 = ρ2 := er
      subst er'
      refine .inl ⟨it2.2, ?_⟩
      have lw := wipe_length σ own
      have l1 := S1.len
      have l2 := S2.len
      have hl : ρ1.length = ρ3.length := by omega
      refine k (.ref Dd) A2 F2 H2 ⟨S2.ex, by rw [backE_length]; omega, fun j d' ej => ?_, fun j hj => ?_, S2.dis⟩ (N1.after0 N2) ⟨[Dd], Own.lst hD2 hF2 (by simp) (allN_of_dp hacc), fun a ha => ?_⟩
      · by_cases hj : j ∈ own
        · rw [backE_in hl hj] at ej
          obtain ⟨v, h1, h2⟩ := S1.own j d' ej
          rw [hown j hj] at h2
          refine ⟨v, h1, ?_⟩
          rw [hown j hj, dep0_nil S2 (hown j hj)]
          exact Own.froz0 (Dp.ex N2.exF _ _ (Own.zero.mp h2).1)
        · rw [backE_out hj] at ej
          obtain ⟨v, h1, h2⟩ := S2.own j d' ej
          rw [wipe_out hj] at h1
          exact ⟨v, h1, h2⟩
      · by_cases hj' : j ∈ own
        · exact dep0_nil S2 (hown j hj')
        · exact S2.no j fun d' e => hj d' (by rw [backE_out hj']; exact e)
      · have : a = Dd := by simpa using ha
        subst this
        refine .inl ⟨hA2, .inr ?_⟩
        cases q : H a with
        | none => rfl
        | some o => exact absurd hDd (N1.grow a (by rw [q]; simp))
  · cases eg
theorem de_lc2 {scope : Scope} {own : List (Str × Nat)} {own1 : List Nat} {gi gi1 : GI} {gt gt1 : GG} {gc gc1 : GT} {ge : GE} (hc : X.calm = true) (hN : X.N.Nodup) (hi : DI X c tg iter deps Ma gi) (ok : BlkOk X.N X.env.scope scope own)
    (hg : ∀ (s : Shared) (H : Hp) (C : Addr) (cl : List (Str × Addr)) (fp : List Addr), DG (X.blk s H scope (compEnvC scope cl C X.env) fp) c tg W gt) (ht : ∀ (s : Shared) (H : Hp) (C : Addr) (cl : List (Str × Addr)) (fp : List Addr), DTs (X.blk s H scope (compEnvC scope cl C X.env) fp) c ifs [] gc)
    (hi1 : ∀ (s : Shared) (H : Hp) (C : Addr) (cl : List (Str × Addr)) (fp : List Addr), DI2 (X.blk s H scope (compEnvC scope cl C X.env) fp) c tg1 iter1 gi1)
    (hg1 : ∀ (s : Shared) (H : Hp) (C : Addr) (cl : List (Str × Addr)) (fp : List Addr), DG (X.blk s H scope (compEnvC scope cl C X.env) fp) c tg1 W1 gt1) (ht1 : ∀ (s : Shared) (H : Hp) (C : Addr) (cl : List (Str × Addr)) (fp : List Addr), DTs (X.blk s H scope (compEnvC scope cl C X.env) fp) c ifs1 [] gc1)
    (he : ∀ (s : Shared) (H : Hp) (C : Addr) (cl : List (Str × Addr)) (fp : List Addr), DE (X.blk s H scope (compEnvC scope cl C X.env) fp) c elt 0 [] [] ge)
    (hv : ∀ i ∈ own1, i ∈ own.map (·.2) := by decide) (hW1 : ∀ i ∈ W1, i ∈ own1 := by decide)
    (hown : ∀ i ∈ own.map (·.2), c.dep i = 0 := by decide) (hW : ∀ i ∈ W, i ∈ own.map (·.2) := by decide) (hs : ∀ x, foldedSetIterable iter X.env x = pure x := by intro _; rfl) (hs1 : ∀ env x, foldedSetIterable iter1 env x = pure x := by intro _ _; rfl) :
    DE X c (.ListComp elt [⟨tg, iter, ifs, 0⟩, ⟨tg1, iter1, ifs1, 0⟩] scope pos) 1 [] Ma (gLc2 (own.map (·.2)) own1 gi gt gc gi1 gt1 gc1 ge) :=
  PE.imp (pe_lc2 (g := tG X.K c W gt) (tt := tT X.K c [] gc) (te := tD X.K c 0 [] [] ge) (wi1 := tI2 X.K c gi1) (g1 := tG X.K c W1 gt1) (tt1 := tT X.K c [] gc1) hc hN hi ok hv hg ht hi1 hg1 ht1 he hs hs1) fun σ H Q w => lc2_read hown hW hv hW1 w
theorem ds_setLc2 {scope : Scope} {own : List (Str × Nat)} {own1 : List Nat} {gi gi1 : GI} {gt gt1 : GG} {gc gc1 : GT} {ge : GE} {i : Nat} {y : Str} {py spos : Pos} (hc : X.calm = true) (hN : X.N.Nodup) (hi : DI X c tg iter deps Ma gi) (ok : BlkOk X.N X.env.scope scope own)
    (hg : ∀ (s : Shared) (H : Hp) (C : Addr) (cl : List (Str × Addr)) (fp : List Addr), DG (X.blk s H scope (compEnvC scope cl C X.env) fp) c tg W gt) (ht : ∀ (s : Shared) (H : Hp) (C : Addr) (cl : List (Str × Addr)) (fp : List Addr), DTs (X.blk s H scope (compEnvC scope cl C X.env) fp) c ifs [] gc)
    (hi1 : ∀ (s : Shared) (H : Hp) (C : Addr) (cl : List (Str × Addr)) (fp : List Addr), DI2 (X.blk s H scope (compEnvC scope cl C X.env) fp) c tg1 iter1 gi1)
    (hg1 : ∀ (s : Shared) (H : Hp) (C : Addr) (cl : List (Str × Addr)) (fp : List Addr), DG (X.blk s H scope (compEnvC scope cl C X.env) fp) c tg1 W1 gt1) (ht1 : ∀ (s : Shared) (H : Hp) (C : Addr) (cl : List (Str × Addr)) (fp : List Addr), DTs (X.blk s H scope (compEnvC scope cl C X.env) fp) c ifs1 [] gc1)
    (he : ∀ (s : Shared) (H : Hp) (C : Addr) (cl : List (Str × Addr)) (fp : List Addr), DE (X.blk s H scope (compEnvC scope cl C X.env) fp) c elt 0 [] [] ge) (hsw : swapsWith (.ListComp elt [⟨tg, iter, ifs, 0⟩, ⟨tg1, iter1, ifs1, 0⟩] scope pos) (some (.Name y py)) spos.line X.env = pure true)
    (hv : ∀ i ∈ own1, i ∈ own.map (·.2) := by decide) (hW1 : ∀ i ∈ W1, i ∈ own1 := by decide)
    (hdi : c.dep i = 1 := by rfl) (hii : i ∉ c.ino := by decide) (hy : X.N[i]? = some y := by rfl) (hyl : X.env.scope.names.lookup y = some .local := by rfl)
    (hown : ∀ i ∈ own.map (·.2), c.dep i = 0 := by decide) (hW : ∀ i ∈ W, i ∈ own.map (·.2) := by decide) (hs : ∀ x, foldedSetIterable iter X.env x = pure x := by intro _; rfl) (hs1 : ∀ env x, foldedSetIterable iter1 env x = pure x := by intro _ _; rfl) :
    DS X c n (.Assign [.Name y py] (.ListComp elt [⟨tg, iter, ifs, 0⟩, ⟨tg1, iter1, ifs1, 0⟩] scope pos) spos) (i :: Ma) (sSet i (gLc2 (own.map (·.2)) own1 gi gt gc gi1 gt1 gc1 ge)) := by
  refine ds_setT (te := tD X.K c (c.dep i) [] Ma (gLc2 (own.map (·.2)) own1 gi gt gc gi1 gt1 gc1 ge)) ?_ hii
  rw [hdi]
  exact PS.imp (ps_setLc2 (g := tG X.K c W gt) (tt := tT X.K c [] gc) (te := tD X.K c 0 [] [] ge) (wi1 := tI2 X.K c gi1) (g1 := tG X.K c W1 gt1) (tt1 := tT X.K c [] gc1) hc hN hy hyl hsw hi ok hv hg ht hi1 hg1 ht1 he hs hs1) fun Ds σ H w => lc2_read hown hW hv hW1 w
theorem ds_setLc20 {scope : Scope} {own : List (Str × Nat)} {own1 : List Nat} {gi gi1 : GI} {gt gt1 : GG} {gc gc1 : GT} {ge : GE} {i : Nat} {y : Str} {py spos : Pos} (hc : X.calm = true) (hN : X.N.Nodup) (hi : DI X c tg iter deps Ma gi) (ok : BlkOk X.N X.env.scope scope own)
    (hg : ∀ (s : Shared) (H : Hp) (C : Addr) (cl : List (Str × Addr)) (fp : List Addr), DG (X.blk s H scope (compEnvC scope cl C X.env) fp) c tg W gt) (ht : ∀ (s : Shared) (H : Hp) (C : Addr) (cl : List (Str × Addr)) (fp : List Addr), DTs (X.blk s H scope (compEnvC scope cl C X.env) fp) c ifs [] gc)
    (hi1 : ∀ (s : Shared) (H : Hp) (C : Addr) (cl : List (Str × Addr)) (fp : List Addr), DI2 (X.blk s H scope (compEnvC scope cl C X.env) fp) c tg1 iter1 gi1)
    (hg1 : ∀ (s : Shared) (H : Hp) (C : Addr) (cl : List (Str × Addr)) (fp : List Addr), DG (X.blk s H scope (compEnvC scope cl C X.env) fp) c tg1 W1 gt1) (ht1 : ∀ (s : Shared) (H : Hp) (C : Addr) (cl : List (Str × Addr)) (fp : List Addr), DTs (X.blk s H scope (compEnvC scope cl C X.env) fp) c ifs1 [] gc1)
    (he : ∀ (s : Shared) (H : Hp) (C : Addr) (cl : List (Str × Addr)) (fp : List Addr), DE (X.blk s H scope (compEnvC scope cl C X.env) fp) c elt 0 [] [] ge) (hsw : swapsWith (.ListComp elt [⟨tg, iter, ifs, 0⟩, ⟨tg1, iter1, ifs1, 0⟩] scope pos) (some (.Name y py)) spos.line X.env = pure true)
    (hv : ∀ i ∈ own1, i ∈ own.map (·.2) := by decide) (hW1 : ∀ i ∈ W1, i ∈ own1 := by decide)
    (hdi : c.dep i = 0 := by rfl) (hii : i ∉ c.ino := by decide) (hy : X.N[i]? = some y := by rfl) (hyl : X.env.scope.names.lookup y = some .local := by rfl)
    (hown : ∀ i ∈ own.map (·.2), c.dep i = 0 := by decide) (hW : ∀ i ∈ W, i ∈ own.map (·.2) := by decide) (hs : ∀ x, foldedSetIterable iter X.env x = pure x := by intro _; rfl) (hs1 : ∀ env x, foldedSetIterable iter1 env x = pure x := by intro _ _; rfl) :
    DS X c n (.Assign [.Name y py] (.ListComp elt [⟨tg, iter, ifs, 0⟩, ⟨tg1, iter1, ifs1, 0⟩] scope pos) spos) (i :: Ma) (sSet i (gLc2 (own.map (·.2)) own1 gi gt gc gi1 gt1 gc1 ge)) := by
  refine ds_setT (te := tD X.K c (c.dep i) [] Ma (gLc2 (own.map (·.2)) own1 gi gt gc gi1 gt1 gc1 ge)) ?_ hii
  rw [hdi]
  refine PS.imp (ps_setLc2 (g := tG X.K c W gt) (tt := tT X.K c [] gc) (te := tD X.K c 0 [] [] ge) (wi1 := tI2 X.K c gi1) (g1 := tG X.K c W1 gt1) (tt1 := tT X.K c [] gc1) hc hN hy hyl hsw hi ok hv hg ht hi1 hg1 ht1 he hs hs1) fun Ds σ H w => lc2_read hown hW hv hW1 ?_
  have w' : tD X.K c 0 [] Ma (gLc2 (own.map (·.2)) own1 gi gt gc gi1 gt1 gc1 ge) σ H (fun x H1 => gName i x σ H1 Ds.nx) := w
  obtain ⟨A, F, ρ, d, ρ', S, eg, k⟩ := w'
  refine ⟨A, F, ρ, d, ρ', S, eg, fun v A' F' H' S' N' r => ?_⟩
  obtain ⟨B, ho, hB⟩ := r
  have hB' : ∀ a ∈ B, (∀ i, a ∉ A' i) ∧ ((∃ i, a ∈ A i) ∨ H a = none) := fun a ha => by
    rcases hB a ha with z | ⟨i, hi, _⟩
    · exact z
    · simp at hi
  obtain ⟨S2, N2⟩ := frz_st S' N' ho.cells hB'
  exact k v A' _ H' S2 N2 (Res.of_froz (Own.frozen1 (fun a ha => (ho.cells a ha).2) ho (nd_gLc2 _ _ _ eg)))
end
end DL

set_option Elab.async false
set_option linter.all false
set_option maxRecDepth 100000
set_option maxHeartbeats 4000000
/-! DL8: a def that calls itself: nothing is promised at depth 0. -/
namespace DL
open PySem L2 PyProof.Rows
theorem fnok_none {P : Program} {w : World} {K : Fr} {mg : Str → Option Value} {base : Heap} {k : Nat} {f : Addr} {fd : FuncData} {ps : List Str} {c : Cfg} {np n : Nat} (h : ps.length = np) : FnOk P w K mg base CX0 k f fd ps (spD K c np n (fun _ => none)) :=
  ⟨fun vs H Q E q => by have := q.1; omega, fun A outer s H args us vs Q E _ _ _ _ q => by
    obtain ⟨_, A, F, ds, r, fin, _, _, e, _⟩ := q
    cases e⟩
end DL

set_option Elab.async false
set_option linter.all false
set_option maxRecDepth 100000
set_option maxHeartbeats 4000000
/-! DL9: sorted of a list or a tuple, of ints or of pairs of ints. -/
namespace DL
open PySem L2 PyProof.Rows
section raw
variable {prog : Program} {w : World} {A : Around} {E : Value → Shared → Prop} {s : Shared}
/-- the items of a list or a tuple, collected -/
theorem coll_seq {l : Addr} {o : Obj} {T : String} {its : List Value} {n : Nat} {Q : List Value → Shared → Prop} (hT : T = "list" ∨ T = "tuple") (ho : s.heap.get? l = some o) (hc : o.cls = .type T) (hd : o.data = .seq its.toArray n) (hz : its.length ≤ sizeLine)
    (h : Q its { s with heap := (s.heap.push (seqObj "list" #[] 0)).update s.heap.objs.size (Obj.mapSeq (· ++ its.toArray)) }) : wpAny (model prog w) A (collect (.ref l)) Q E s := by
  have ho1 : (s.heap.push (seqObj "list" #[] 0)).get? l = some o := Heap.get?_push_of_some _ ho
  have hn : (s.heap.push (seqObj "list" #[] 0)).get? s.heap.objs.size = some (seqObj "list" #[] 0) := Heap.get?_push_size _ rfl
  unfold collect
  refine wpAny_bind (wpAny_runValue (codeAny_builtin entry_proto_collect' (?_ : wpAny _ _ (do again (.builtin "list.__iadd__" ⟨[← newList [], .ref l], []⟩)) _ _ s)))
  refine wpAny_bind (wpAny_newList (wpAny_pure ⟨Code.quiet_builtin _ (by decide +kernel), codeAny_builtin entry_list_iadd' (?_ : wpAny _ _ (Builtin.List.listExtendWith (.ref s.heap.objs.size) (.ref l) (.ref s.heap.objs.size)) _ _ { s with heap := s.heap.push (seqObj "list" #[] 0) })⟩))
  unfold Builtin.List.listExtendWith
  refine wpAny_bind (wpAny_typeOf (T := T) ⟨o, ho1, hc⟩ ?_)
  rw [if_pos (show (_ || _) = true by rcases hT with rfl | rfl <;> simp)]
  refine wpAny_bind (listItems_at ho1 hd (wpAny_bind (listItems_at (xs := #[]) (n := 0) hn rfl ?_)))
  rw [if_neg (show ¬ _ by simp)]
  refine wpAny_bind (listUpdate_at (xs := #[]) (n := 0) hn rfl (wpAny_pure ?_) (Nat.zero_le _) (by simp only [Array.size_append, List.size_toArray, List.length_nil]; omega))
  refine wpAny_bind (m := load s.heap.objs.size) (wpAny_load (get?_update_seq hn _) (?_ : wpAny (model prog w) A (pure ((#[] : Array Value) ++ its.toArray).toList) Q E _))
  rw [show ((#[] : Array Value) ++ its.toArray).toList = its from by simp]
  exact wpAny_pure h
/-- sorted of a list or a tuple -/
theorem sorted_seq {l : Addr} {o : Obj} {T : String} {its : List Value} {n : Nat} {lt : Value → Value → Bool} {Q : Value → Shared → Prop} (O : SrtO.Swo lt) (hT : T = "list" ∨ T = "tuple") (ho : s.heap.get? l = some o) (hc : o.cls = .type T) (hd : o.data = .seq its.toArray n) (hz : its.length ≤ sizeLine)
    (hS : 2 ≤ its.length → ∀ (h₁ : Heap) (a : Addr), h₁.get? a = some (seqObj "list" its.toArray 0) → (∀ b u, s.heap.get? b = some u → b ≠ a ∧ h₁.get? b = some u) → SrtO.SortableO prog w A.in1.in1 { s with heap := h₁ } a its lt)
    (h : ∀ out : List Value, SrtO.Srtd lt out → SrtO.Stb lt out its → Q (.ref (s.heap.objs.size + 1)) { s with heap := sortedAll s.heap its out.toArray }) :
    wpAny (model prog w) A (call (.builtin "sorted") [.ref l]) Q E s := by
  have hs1 : ((s.heap.push (seqObj "list" #[] 0)).update s.heap.objs.size (Obj.mapSeq (· ++ its.toArray))).objs.size = s.heap.objs.size + 1 := (Heap.size_update ..).trans (size_push' _ _)
  have old : ∀ b u, s.heap.get? b = some u → b ≠ s.heap.objs.size + 1 ∧ (((s.heap.push (seqObj "list" #[] 0)).update s.heap.objs.size (Obj.mapSeq (· ++ its.toArray))).push (seqObj "list" its.toArray 0)).get? b = some u := fun b u q =>
    have lt1 : b < s.heap.objs.size := Heap.lt_size q
    ⟨fun z => absurd (z ▸ lt1 : s.heap.objs.size + 1 < s.heap.objs.size) (Nat.not_lt.mpr (Nat.le_succ _)), Heap.get?_push_of_some _ ((Heap.get?_update_ne _ _ _ _ (Nat.ne_of_lt lt1)).trans (Heap.get?_push_of_some _ q))⟩
  have new : (((s.heap.push (seqObj "list" #[] 0)).update s.heap.objs.size (Obj.mapSeq (· ++ its.toArray))).push (seqObj "list" its.toArray 0)).get? (s.heap.objs.size + 1) = some (seqObj "list" its.toArray 0) := hs1 ▸ Heap.get?_push_size _ rfl
  refine Calls.call_function_entry kind_sorted plain_sorted entry_sorted (args_sorted1 _) (?_ : wpAny _ _ (Builtin.«sorted» _) _ _ _)
  unfold Builtin.«sorted»
  refine wpAny_bind (m := checkCount "sorted" 1 1 _) (wpAny_pure (wpAny_bind (coll_seq hT ho hc hd hz (wpAny_bind (wpAny_newList ?_ hz)))))
  rw [hs1]
  exact wpAny_bind (wpAny_holding (wpAny_call_entry slot_list_sort ⟨_, new, rfl⟩ entry_list_sort (SrtO.list_sort_ord O new hz (fun h2 => hS h2 _ _ new old) fun out a1 a2 => ⟨_, rfl, wpAny_pure ⟨_, rfl, h out a1 a2⟩⟩) (args_list_sort _)))
end raw
section
variable {X : Cx}
/-- a list or a tuple -/
theorem Inv.seqA {pins : List (Addr × Obj)} {σ : L2.St} {H : Hp} {s : Shared} {a : Addr} {xs : List V} (I : Inv X pins σ H s) (h : SqL X.K H a xs ∨ SqT X.K H a xs) : ∃ (its : List Value) (o : Obj) (T : String) (n : Nat), Vals xs its ∧ (T = "list" ∨ T = "tuple") ∧ s.heap.get? a = some o ∧ o.cls = .type T ∧ o.data = .seq its.toArray n ∧ xs.length ≤ sizeLine := by
  rcases h with h | h
  · obtain ⟨its, r, hl, z⟩ := I.list h
    obtain ⟨o, ho, hc, n, hd⟩ := hl.isList
    exact ⟨its, o, _, n, r, .inl rfl, ho, hc, hd, z⟩
  · obtain ⟨its, r, ⟨o, ho, hc, n, hd⟩, z⟩ := I.tuple h
    exact ⟨its, o, _, n, r, .inr rfl, ho, hc, hd, z⟩
def rSortedIA (K : Fr) : List V → Hp → VK → Prop := fun vs H Q => ∃ (a : Addr) (ns : List Int), vs = [V.ref a] ∧ (SqL K H a (ns.map V.int) ∨ SqT K H a (ns.map V.int)) ∧
  ∀ (ms : List Int) (p : Addr), ms.Perm ns → ms.Pairwise (· ≤ ·) → H p = none → Q (.ref p) (upd H p (.lst (ms.map V.int)))
theorem cr_sortedIA : CallR X (.builtin "sorted") (rSortedIA X.K) := by
  intro pins s σ H vs us Q I r h
  obtain ⟨a, ns, rfl, hs, q⟩ := h
  obtain ⟨its, o, T, n, rv, hT, ho, hc, hd, hz⟩ := Inv.seqA I hs
  rw [Vals.ref1 r]
  refine sorted_seq SrtO.swo_int hT ho hc hd (by rw [← rv.length]; exact hz) (fun h2 _ _ _ _ => SrtO.ints_sortable rv.ints h2) fun out a1 a2 => ?_
  obtain ⟨k1, k2, k3⟩ := SrtO.ints_out rv.ints a1 a2
  obtain ⟨ep, he⟩ := PyProof.Rows.sortedAll_at s.heap its out.toArray
  have z1 : ((out.map SrtO.iv).map V.int).length ≤ sizeLine := by
    rw [List.length_map, k2.length_eq]
    simpa using hz
  exact ⟨.ref (s.heap.objs.size + 1), upd H (s.heap.objs.size + 1) (.lst ((out.map SrtO.iv).map V.int)), I.laid (t' := s.toks) (fun _ _ z => PyProof.Rows.sortedAll_old z) (Nat.le_succ _) ⟨z1, out, ep, vals_of_ints k1, he⟩, rfl, q _ _ k2 k3 (I.hok.fresh (Nat.le_succ _))⟩
def rSortedPA (K : Fr) : List V → Hp → VK → Prop := fun vs H Q => ∃ (a : Addr) (xs : List V) (k : V → Int × Int), vs = [V.ref a] ∧ (SqL K H a xs ∨ SqT K H a xs) ∧ (∀ x ∈ xs, ∃ t, x = V.ref t ∧ H t = some (.tup [.int (k x).1, .int (k x).2])) ∧
  ∀ ys p, SrtO.Srtd (ltP k) ys → SrtO.Stb (ltP k) ys xs → H p = none → Q (.ref p) (upd H p (.lst ys))
theorem cr_sortedPA : CallR X (.builtin "sorted") (rSortedPA X.K) := by
  intro pins s σ H vs us Q I r h
  obtain ⟨a, xs, k, rfl, hs, hx, q⟩ := h
  obtain ⟨its, o, T, n, rv, hT, ho, hc, hd, hz⟩ := Inv.seqA I hs
  rw [Vals.ref1 r]
  obtain ⟨e1, e2⟩ := refs_back rv fun x m => (hx x m).imp fun t z => z.1
  have hpair : ∀ v ∈ its, Srt.IsPair s.heap v (k (backV v)).1 (k (backV v)).2 := fun v hv => by
    obtain ⟨t, rfl⟩ := e2 v hv
    obtain ⟨t', e, ht⟩ := hx (V.ref t) (by rw [e1]; exact List.mem_map.mpr ⟨_, hv, rfl⟩)
    cases e
    obtain ⟨_, its2, r2, u, hu, hcu, m, hdu⟩ := I.hok _ _ ht
    obtain ⟨u1, u2, rfl, ⟨t1, rfl⟩, ⟨t2, rfl⟩⟩ := vals2 r2
    exact ⟨t, u, t1, t2, m, rfl, hu, hcu, hdu⟩
  refine sorted_seq (SrtO.swo_lex fun u => k (backV u)) hT ho hc hd (by rw [← rv.length]; exact hz) (fun h2 h₁ a ha kk => SrtO.pairs_sortableO (s := { s with heap := h₁ }) (by omega) (fun v hm => (hpair v hm).keeps fun b u e _ => (kk b u e).2) fun u e => ?_) fun out a1 a2 => ?_
  · have e' : some u = some (seqObj "list" its.toArray 0) := e.symm.trans ha
    cases e'
    exact fun c => absurd (Value.type.inj c) (by decide)
  · have h3 : ∀ u ∈ out, ∃ a, u = Value.ref a := fun u hu => e2 u (a2.perm.mem_iff.mp hu)
    obtain ⟨ep, he⟩ := PyProof.Rows.sortedAll_at s.heap its out.toArray
    have hb : SrtO.Stb (ltP k) (out.map backV) xs := e1 ▸ SrtO.Stb.map (ltP_swo k) backV a2
    exact ⟨.ref (s.heap.objs.size + 1), upd H (s.heap.objs.size + 1) (.lst (out.map backV)), I.laid (t' := s.toks) (fun _ _ z => PyProof.Rows.sortedAll_old z) (Nat.le_succ _) ⟨by rw [hb.len]; exact hz, out, ep, vals_back h3, he⟩, rfl, q _ _ (SrtO.srtd_map a1) hb (I.hok.fresh (Nat.le_succ _))⟩
def insI (x : Int) : List Int → List Int
  | [] => [x]
  | y :: r => if x ≤ y then x :: y :: r else y :: insI x r
def srtI : List Int → List Int
  | [] => []
  | x :: r => insI x (srtI r)
theorem insI_perm {x : Int} : ∀ {l : List Int}, (insI x l).Perm (x :: l)
  | [] => List.Perm.refl _
  | y :: r => by
    unfold insI
    split
    · exact List.Perm.refl _
    · exact (List.Perm.cons y insI_perm).trans (List.Perm.swap x y r)
theorem srtI_perm : ∀ (l : List Int), (srtI l).Perm l
  | [] => List.Perm.refl _
  | x :: r => insI_perm.trans (List.Perm.cons x (srtI_perm r))
theorem insI_srt {x : Int} : ∀ {l : List Int}, l.Pairwise (· ≤ ·) → (insI x l).Pairwise (· ≤ ·)
  | [], _ => by simp [insI]
  | y :: r, h => by
    obtain ⟨h1, h2⟩ := List.pairwise_cons.mp h
    unfold insI
    split
    · rename_i hle
      refine List.pairwise_cons.mpr ⟨fun z hz => ?_, h⟩
      rcases List.mem_cons.mp hz with rfl | hz
      · exact hle
      · exact Int.le_trans hle (h1 z hz)
    · rename_i hle
      refine List.pairwise_cons.mpr ⟨fun z hz => ?_, insI_srt h2⟩
      rcases List.mem_cons.mp (insI_perm.mem_iff.mp hz) with rfl | hz
      · omega
      · exact h1 z hz
theorem srtI_srt : ∀ (l : List Int), (srtI l).Pairwise (· ≤ ·)
  | [] => .nil
  | x :: r => insI_srt (srtI_srt r)
theorem srtI_uniq : ∀ {l m : List Int}, l.Pairwise (· ≤ ·) → m.Pairwise (· ≤ ·) → l.Perm m → l = m
  | [], m, _, _, p => by rw [List.nil_perm] at p; exact p.symm
  | x :: r, [], _, _, p => by have := p.length_eq; simp at this
  | x :: r, y :: q, h1, h2, p => by
    obtain ⟨a1, a2⟩ := List.pairwise_cons.mp h1
    obtain ⟨b1, b2⟩ := List.pairwise_cons.mp h2
    have e : x = y := by
      have m1 : x ∈ y :: q := p.mem_iff.mp (by simp)
      have m2 : y ∈ x :: r := p.mem_iff.mpr (by simp)
      rcases List.mem_cons.mp m1 with z | z
      · exact z
      · rcases List.mem_cons.mp m2 with w | w
        · exact w.symm
        · exact Int.le_antisymm (a1 y w) (b1 x z)
    subst e
    rw [srtI_uniq a2 b2 ((List.perm_cons x).mp p)]
/-- sorted: of ints, else of pairs of ints -/
def sortAD (d : D) : Option D := (itemsD d).bind fun ds => match intsOf ds with
  | some ns => some (.list ((srtI ns).map .int))
  | none => (prsOf ds).map fun ps => .list ((srtP ps).map prD)
theorem nd_sortA : ∀ x d, sortAD x = some d → isDict d = false := fun x d h => by
  obtain ⟨ds, _, h⟩ := Option.bind_eq_some_iff.mp h
  split at h
  · cases h; rfl
  · obtain ⟨ps, _, h⟩ := Option.map_eq_some_iff.mp h
    cases h; rfl
theorem dp_ints2 {K : Fr} {H : Hp} : ∀ (ns : List Int), DL.DpAll K H (ns.map V.int) (ns.map PyData.int)
  | [] => .nil
  | n :: ns => .cons (.int n) (dp_ints2 ns)
theorem own_seq {K : Fr} {F H : Hp} {v : V} {d : D} {B : List Addr} {ds : List D} (ex : Ex F H) (o : OwnL K F H 1 v d B) (h : itemsD d = some ds) : ∃ a vs, v = .ref a ∧ (SqL K H a vs ∨ SqT K H a vs) ∧ DpAll K F vs ds := by
  cases d <;> simp only [itemsD, Option.some.injEq, reduceCtorEq] at h
  · subst h
    obtain ⟨a, vs, rfl, s1, a1⟩ := o.lst1 ex
    exact ⟨a, vs, rfl, .inl s1, a1⟩
  · subst h
    obtain ⟨a, vs, rfl, s1, a1⟩ := o.tup
    exact ⟨a, vs, rfl, .inr (SqT.of (ex _ _ s1)), a1⟩
theorem cd_sortedA : CallD X (.builtin "sorted") 1 1 sortAD := ⟨_, cr_sortedIA.or cr_sortedPA, fun F H x dx d B1 e o hs Q k => by
  obtain ⟨ds, h0, hs⟩ := Option.bind_eq_some_iff.mp hs
  obtain ⟨a, vs, rfl, s1, a1⟩ := own_seq e o h0
  split at hs
  · rename_i ns hn
    cases hs
    have hv := intsOf_dp a1 hn
    subst hv
    refine .inl ⟨a, ns, rfl, s1, fun ms p hp hso hnew => ?_⟩
    rw [srtI_uniq hso (srtI_srt ns) (hp.trans (srtI_perm ns).symm)]
    exact KQ.lst k e (dp_ints2 _) hnew
  · obtain ⟨ps, h1, hs⟩ := Option.map_eq_some_iff.mp hs
    cases hs
    have h2 := prsOf_some h1
    subst h2
    obtain ⟨h3, h4⟩ := prs_dp (H := H) e a1
    refine .inr ⟨a, vs, keyH H, rfl, s1, fun x hx => ?_, fun ys p hso hst hnew => ?_⟩
    · obtain ⟨t, e1, e2⟩ := h3 x hx
      exact ⟨t, e1, e _ _ e2⟩
    · have hperm := hst.perm
      have hy : ys.map (keyH H) = srtP ps := by
        refine srt_uniq (srtd_le hso) (srtP_srt ps) ?_
        have := hperm.map (keyH H)
        rw [h4] at this
        exact this.trans (srtP_perm ps).symm
      refine KQ.lst k e ?_ hnew
      have := dp_prs (K := X.K) (F := F) (H := H) (vs := ys) fun x hx => h3 x (hperm.mem_iff.mp hx)
      rw [hy] at this
      exact this⟩
end
end DL

set_option Elab.async false
set_option linter.all false
set_option maxRecDepth 100000
set_option maxHeartbeats 4000000
/-! DL10: sorted(set(..)) of a list of pairs. -/
namespace DL
open PySem L2 PyProof.Rows
def ddpP : List (Int × Int) → List (Int × Int)
  | [] => []
  | x :: r => if x ∈ r then ddpP r else x :: ddpP r
theorem mem_ddpP {k : Int × Int} : ∀ {l : List (Int × Int)}, k ∈ ddpP l ↔ k ∈ l
  | [] => Iff.rfl
  | x :: r => by
    unfold ddpP
    split
    · rename_i h
      rw [mem_ddpP, List.mem_cons]
      exact ⟨.inr, fun z => z.elim (fun e => e ▸ h) id⟩
    · rw [List.mem_cons, List.mem_cons, mem_ddpP]
theorem nodup_ddpP : ∀ (l : List (Int × Int)), (ddpP l).Nodup
  | [] => List.nodup_nil
  | x :: r => by
    unfold ddpP
    split
    · exact nodup_ddpP r
    · rename_i h
      exact List.nodup_cons.mpr ⟨fun z => h (mem_ddpP.mp z), nodup_ddpP r⟩
theorem perm_nodup {α : Type} [DecidableEq α] : ∀ {l m : List α}, l.Nodup → m.Nodup → (∀ x, x ∈ l ↔ x ∈ m) → l.Perm m
  | [], m, _, _, h => by
    have : m = [] := List.eq_nil_iff_forall_not_mem.mpr fun x hx => by have := (h x).mpr hx; simp at this
    rw [this]
  | x :: l, m, h1, h2, h => by
    obtain ⟨a1, a2⟩ := List.nodup_cons.mp h1
    have hx : x ∈ m := (h x).mp (by simp)
    have hp := List.perm_cons_erase hx
    refine (List.Perm.cons x (perm_nodup a2 (h2.erase x) fun y => ?_)).trans hp.symm
    rw [List.Nodup.mem_erase_iff h2]
    constructor
    · intro hy
      exact ⟨fun z => a1 (z ▸ hy), (h y).mp (List.mem_cons_of_mem _ hy)⟩
    · rintro ⟨hn, hy⟩
      exact (List.mem_cons.mp ((h y).mpr hy)).resolve_left hn
def smallP (p : Int × Int) : Bool := decide (0 ≤ p.1) && decide (p.1 < 64) && (decide (0 ≤ p.2) && decide (p.2 < 64))
theorem smallP_ok {p : Int × Int} (h : smallP p = true) : (0 ≤ p.1 ∧ p.1 < 64) ∧ (0 ≤ p.2 ∧ p.2 < 64) := by
  unfold smallP at h
  simp only [Bool.and_eq_true, decide_eq_true_eq] at h
  exact h
/-- sorted(set(xs)), xs a list of pairs -/
def sortSetD : D → Option D
  | .list ds => (prsOf ds).bind fun ps => if ps.length < 64 ∧ ps.all smallP = true then some (.list ((srtP (ddpP ps)).map prD)) else none
  | _ => none
theorem nd_sortSet : ∀ x d, sortSetD x = some d → isDict d = false := fun x d h => by
  cases x <;> simp only [sortSetD, reduceCtorEq] at h
  obtain ⟨ps, _, h⟩ := Option.bind_eq_some_iff.mp h
  split at h
  · cases h; rfl
  · cases h
/-- where the pair stands, and what it is -/
def rowH (H : Hp) : V → Addr × List Int
  | .ref t => (t, [(keyH H (.ref t)).1, (keyH H (.ref t)).2])
  | _ => (0, [])
section
variable {X : Cx} {c : Cfg} {e a b : Expr} {n1 : Nat} {da Ma : List Nat} {ga : GE} {pos p p2 pos2 : Pos}
theorem de_sortSet (ha : DE X c a n1 da Ma ga) (hs : X.mg "sorted" = none) (hm : X.mg "set" = none) (hu : X.A.units + 64 < cLine) (hn : n1 = 0 ∨ n1 = 1 := by decide) (hc : X.calm = true := by rfl) (hgs : Gl X "sorted" := by rfl) (hg : Gl X "set" := by rfl)
    (na : starEach [a] X.env = (false, eval a X.env) :: starEach [] X.env := by rfl) (hpl : (backTo pos (starEach [] X.env)).any (·.1) = false := by rfl)
    (nb : starEach [.Call (.Name "set" p) [a] [] pos] X.env = (false, eval (.Call (.Name "set" p) [a] [] pos) X.env) :: starEach [] X.env := by rfl) (hpl2 : (backTo pos2 (starEach [] X.env)).any (·.1) = false := by rfl) :
    DE X c (.Call (.Name "sorted" p2) [.Call (.Name "set" p) [a] [] pos] [] pos2) 1 [] Ma (gUn sortSetD ga) := by
  have h1 : PE X (.Call (.Name "set" p) [a] [] pos) _ := pe_callTy (cr_setOfT hc hu) hg hm (by decide +kernel) (pa_cons ha pa_nil na) (by decide) (by decide) na hpl
  refine PE.imp (pe_callB (cr_sortedT hc) hgs hs (by decide +kernel) (pa_cons h1 pa_nil nb) (by decide) (by decide) nb hpl2) fun σ H Q w => ?_
  obtain ⟨A, F, ρ, d, ρ', S, eg, k⟩ := w
  obtain ⟨x, e1, e3⟩ := gUn_some eg
  cases x <;> simp only [sortSetD, reduceCtorEq] at e3
  obtain ⟨ps, e4, e5⟩ := Option.bind_eq_some_iff.mp e3
  split at e5
  · rename_i hsm
    cases e5
    have e6 := prsOf_some e4
    subst e6
    refine ⟨A, F, ρ, _, ρ', S, e1, fun v A1 F1 H1 S1 N1 r1 => ?_⟩
    obtain ⟨B, ho, _⟩ := r1
    obtain ⟨l, vs, rfl, s1, a1⟩ := OwnL.lst1 S1.ex (ho.l (n := 1) hn)
    obtain ⟨h3, h4⟩ := prs_dp (H := H1) S1.ex a1
    have hvs : vs.length = ps.length := by rw [← h4, List.length_map]
    have href : (vs.map (rowH H1)).map (fun q => V.ref q.1) = vs := by
      rw [List.map_map]
      refine (List.map_congr_left fun x hx => ?_).trans (List.map_id vs)
      obtain ⟨t, rfl, _⟩ := h3 x hx
      rfl
    have hrow : ∀ q ∈ vs.map (rowH H1), ∃ t, V.ref t ∈ vs ∧ q = (t, [(keyH H1 (.ref t)).1, (keyH H1 (.ref t)).2]) ∧ F1 t = some (.tup [.int (keyH H1 (.ref t)).1, .int (keyH H1 (.ref t)).2]) ∧ keyH H1 (.ref t) ∈ ps := fun q hq => by
      obtain ⟨x, hx, rfl⟩ := List.mem_map.mp hq
      obtain ⟨t, rfl, hF⟩ := h3 x hx
      exact ⟨t, hx, rfl, hF, by rw [← h4]; exact List.mem_map.mpr ⟨_, hx, rfl⟩⟩
    refine ⟨l, vs.map (rowH H1), rfl, by rw [href]; exact s1, fun q hq => ?_, by rw [List.length_map, hvs]; exact hsm.1, fun a2 L hn2 hsub hall => ?_⟩
    · obtain ⟨t, _, rfl, hF, _⟩ := hrow q hq
      exact SqT.of (S1.ex _ _ hF)
    · have g1 : Gr F1 H1 F1 (upd H1 a2 (SetTO X.prog X.w a2 L)) := Gr.newLst S1.ex hn2
      refine ⟨a2, L, 2, 64, rfl, upd_same, fun q hq => ?_, by omega, fun q hq => ?_, fun L' p' hperm hnd _ hpw hnew => ?_⟩
      · obtain ⟨t, _, rfl, hF, _⟩ := hrow q (hsub q hq)
        exact SqT.of (g1.fh _ _ hF)
      · obtain ⟨t, _, rfl, _, hps⟩ := hrow q (hsub q hq)
        have := smallP_ok (List.all_eq_true.mp hsm.2 _ hps)
        refine ⟨rfl, ?_⟩
        intro z hz
        have hz : z = (keyH H1 (.ref t)).1 ∨ z = (keyH H1 (.ref t)).2 := by simpa using hz
        rcases hz with rfl | rfl
        · exact this.1
        · exact this.2
      · -- the sorted ones
        have hrow' : ∀ q ∈ L', ∃ t, V.ref t ∈ vs ∧ q = (t, [(keyH H1 (.ref t)).1, (keyH H1 (.ref t)).2]) ∧ F1 t = some (.tup [.int (keyH H1 (.ref t)).1, .int (keyH H1 (.ref t)).2]) ∧ keyH H1 (.ref t) ∈ ps := fun q hq => hrow q (hsub q (hperm.mem_iff.mp hq))
        have hys : ∀ x ∈ L'.map (fun q => V.ref q.1), ∃ t, x = V.ref t ∧ F1 t = some (.tup [.int (keyH H1 x).1, .int (keyH H1 x).2]) := fun x hx => by
          obtain ⟨q, hq, rfl⟩ := List.mem_map.mp hx
          obtain ⟨t, _, rfl, hF, _⟩ := hrow' q hq
          exact ⟨t, rfl, hF⟩
        have hkeys : (L'.map fun q => V.ref q.1).map (keyH H1) = srtP (ddpP ps) := by
          have hinj : (L'.map (·.2)) = ((L'.map fun q => V.ref q.1).map (keyH H1)).map fun z => [z.1, z.2] := by
            rw [List.map_map, List.map_map]
            refine List.map_congr_left fun q hq => ?_
            obtain ⟨t, _, rfl, _, _⟩ := hrow' q hq
            rfl
          have hnd2 : ((L'.map fun q => V.ref q.1).map (keyH H1)).Nodup := by
            rw [hinj] at hnd
            exact List.Pairwise.of_map _ (fun a b hab z => hab (by rw [z])) hnd
          have hmem : ∀ z, z ∈ (L'.map fun q => V.ref q.1).map (keyH H1) ↔ z ∈ ps := fun z => by
            constructor
            · intro hz
              obtain ⟨x, hx, rfl⟩ := List.mem_map.mp hz
              obtain ⟨q, hq, rfl⟩ := List.mem_map.mp hx
              obtain ⟨t, _, rfl, _, hps⟩ := hrow' q hq
              exact hps
            · intro hz
              rw [← h4] at hz
              obtain ⟨x, hx, rfl⟩ := List.mem_map.mp hz
              have hr : rowH H1 x ∈ vs.map (rowH H1) := List.mem_map.mpr ⟨x, hx, rfl⟩
              obtain ⟨q, hq, hqe⟩ := List.mem_map.mp (hall _ hr)
              have hq' := hperm.mem_iff.mpr hq
              obtain ⟨t, _, rfl, _, _⟩ := hrow' q hq'
              obtain ⟨t2, rfl, _⟩ := h3 x hx
              have he : keyH H1 (.ref t) = keyH H1 (.ref t2) := by
                have e0 : [(keyH H1 (.ref t)).1, (keyH H1 (.ref t)).2] = [(keyH H1 (.ref t2)).1, (keyH H1 (.ref t2)).2] := hqe
                simp only [List.cons.injEq, and_true] at e0
                exact Prod.ext e0.1 e0.2
              rw [← he]
              exact List.mem_map.mpr ⟨_, List.mem_map.mpr ⟨_, hq', rfl⟩, rfl⟩
          refine srt_uniq ?_ (srtP_srt _) (perm_nodup hnd2 ((srtP_perm _).nodup_iff.mpr (nodup_ddpP ps)) fun z => by rw [hmem, (srtP_perm _).mem_iff, mem_ddpP])
          refine List.pairwise_map.mpr (List.pairwise_map.mpr ?_)
          have hpw2 := List.pairwise_iff_getElem.mp hpw
          refine List.pairwise_iff_getElem.mpr fun i j hi hj hij => ?_
          have hc1 := hpw2 i j hi hj hij
          obtain ⟨t1, _, q1, _, p1⟩ := hrow' _ (List.getElem_mem hi)
          obtain ⟨t2, _, q2, _, p2⟩ := hrow' _ (List.getElem_mem hj)
          have b1 := smallP_ok (List.all_eq_true.mp hsm.2 _ p1)
          have b2 := smallP_ok (List.all_eq_true.mp hsm.2 _ p2)
          rw [q1, q2] at hc1 ⊢
          dsimp only at hc1 ⊢
          rw [code_pair, code_pair] at hc1
          refine decide_eq_true ?_
          omega
        have g2 : Gr F1 (upd H1 a2 (SetTO X.prog X.w a2 L)) F1 (upd (upd H1 a2 (SetTO X.prog X.w a2 L)) p' (.lst (L'.map fun q => V.ref q.1))) := Gr.newLst g1.fh hnew
        have hdp := dp_prs (K := X.K) (F := F1) (H := H1) hys
        rw [hkeys] at hdp
        have hp1 : H1 p' = none := ex_none g1.exH hnew
        have ow : Own X.K F1 (upd (upd H1 a2 (SetTO X.prog X.w a2 L)) p' (.lst (L'.map fun q => V.ref q.1))) 1 (.ref p') (.list ((srtP (ddpP ps)).map prD)) [p'] := Own.lst (B := []) upd_same (ex_none S1.ex hp1) List.not_mem_nil (allN_of_dp hdp)
        refine fin_op S1 N1 k (.ref p') F1 _ [p'] (g1.trans g2) ow (fun z hz => ?_)
        have hz : z = p' := by simpa using hz
        rw [hz]
        exact hp1
  · cases e5
end
end DL

set_option Elab.async false
set_option linter.all false
set_option maxRecDepth 100000
set_option maxHeartbeats 4000000
/-! DL11: x is True, a constant of 225 digits. -/
namespace DL
open PySem L2 PyProof.Rows
def okV : V → Bool
  | .non => true
  | .bl _ => true
  | .int _ => true
  | .str _ => true
  | .ref _ => true
  | _ => false
theorem op_isB2 {X : Cx} : OpR X (compareOp .Is) (fun x y H Q => ∃ b : Bool, y = .bl b ∧ okV x = true ∧ Q (.bl (decide (x = .bl b))) H) := by
  intro pins s σ H x y v u Q I rx ry h
  obtain ⟨b, rfl, hx, q⟩ := h
  cases (show u = Value.bool b from ry)
  cases x <;> simp only [okV, reduceCtorEq] at hx
  · cases (show v = Value.none from rx)
    exact wpAny_is_other rfl (fun z => by cases z) ⟨.bl false, H, I, rfl, by simpa using q⟩
  · rename_i a
    cases (show v = Value.bool a from rx)
    by_cases e : a = b
    · subst e
      exact wpAny_is_self rfl ⟨.bl true, H, I, rfl, by simpa using q⟩
    · exact wpAny_is_other rfl (fun z => e (Value.bool.inj z)) ⟨.bl false, H, I, rfl, by simpa [e] using q⟩
  · obtain ⟨t, rfl⟩ := (show ∃ t, v = Value.int _ t from rx)
    exact wpAny_is_other rfl (fun z => by cases z) ⟨.bl false, H, I, rfl, by simpa using q⟩
  · obtain ⟨t, rfl⟩ := (show ∃ t, v = Value.str _ t from rx)
    exact wpAny_is_other rfl (fun z => by cases z) ⟨.bl false, H, I, rfl, by simpa using q⟩
  · rename_i a
    cases (show v = Value.ref a from rx)
    exact wpAny_is_other rfl (fun z => by cases z) ⟨.bl false, H, I, rfl, by simpa using q⟩
def isBoolD (b : Bool) : D → Bool
  | .bool a => decide (a = b)
  | _ => false
def isBD (x y : D) : Option D := match y with
  | .bool b => if isDict x = true then none else some (.bool (isBoolD b x))
  | _ => none
theorem own_isBool {K : Fr} {F H : Hp} {n : Nat} {v : V} {d : D} {B : List Addr} (b : Bool) (hd : isDict d = false) (h : OwnL K F H n v d B) : okV v = true ∧ decide (v = .bl b) = isBoolD b d := by
  cases d with
  | none => rw [h.none]; exact ⟨rfl, rfl⟩
  | bool a => rw [h.bool]; exact ⟨rfl, by simp [isBoolD]⟩
  | int a => rw [h.int]; exact ⟨rfl, rfl⟩
  | str a => rw [h.str]; exact ⟨rfl, rfl⟩
  | list ds =>
    have : ∃ a, v = .ref a := by
      rcases h with ⟨h, _⟩ | h
      · cases h
        exact ⟨_, rfl⟩
      · cases n with
        | zero =>
          have := (Own.zero.mp h).1
          cases this
          exact ⟨_, rfl⟩
        | succ n =>
          unfold Own at h
          rcases h with ⟨h, _⟩ | ⟨a, _, _, _, e, _⟩ | ⟨a, _, _, _, e, _⟩ | ⟨a, _, _, _, e, _⟩
          · cases h
            exact ⟨_, rfl⟩
          · exact ⟨a, e⟩
          · exact ⟨a, e⟩
          · exact ⟨a, e⟩
    obtain ⟨a, rfl⟩ := this
    exact ⟨rfl, rfl⟩
  | tuple ds =>
    obtain ⟨a, vs, rfl, _⟩ := h.tup
    exact ⟨rfl, rfl⟩
  | dict kvs => cases hd
theorem od_isB {X : Cx} : OpD X (compareOp .Is) 1 0 0 isBD := ⟨_, op_isB2, fun F H x y dx dy d B1 B2 e ox oy hs Q k => by
  cases dy <;> simp only [isBD, reduceCtorEq] at hs
  rename_i b
  split at hs
  · cases hs
  · rename_i hd
    cases hs
    obtain ⟨h1, h2⟩ := own_isBool b (by simpa using hd) ox
    refine ⟨b, oy.bool, h1, ?_⟩
    rw [h2]
    exact KQ.flat k e (.bl _)⟩
/-! ### 10 ** 225 -/
theorem bigM_ex : ∃ m : Int, m = 10 ^ 225 := ⟨_, rfl⟩
noncomputable def bigM : Int := Classical.choose bigM_ex
theorem bigM_eq : bigM = 10 ^ 225 := Classical.choose_spec bigM_ex
@[simp] theorem bigM_pos : (0 : Int) < bigM := by
  rw [bigM_eq]
  exact Int.pow_pos (by decide)
theorem big18_ex : ∃ m : Int, m = 10 ^ 18 := ⟨_, rfl⟩
section
variable {X : Cx} {c : Cfg} {a b : Expr} {pos : Pos}
/-- an operation on two constants -/
theorem de_constW {i j : Int} (hc : CMulW i j) (ha : DE X c a 0 [] [] (gC (.int i))) (hb : DE X c b 0 [] [] (gC (.int j))) : DE X c (.BinOp a .Mult b pos) 0 [] [] (gC (.int (i * j))) := by
  refine PE.imp (pe_op op_mulW ha hb) fun σ H Q w => ?_
  obtain ⟨A, F, ρ, d, ρ', S, eg, k⟩ := w
  cases eg
  refine ⟨A, F, ρ, _, ρ, S, rfl, fun v A1 F1 H1 S1 N1 r1 => ⟨A1, F1, ρ, _, ρ, S1, rfl, fun u A2 F2 H2 S2 N2 r2 => ?_⟩⟩
  have hv := r1.froz0
  have hu := r2.froz0
  cases hv
  cases hu
  exact ⟨i, j, rfl, rfl, hc, k _ A2 F2 H2 S2 (N1.after0 N2) (Res.of_froz (.int _))⟩
theorem de_constP {i : Int} {e : Nat} (he : e ≤ 1000) (hi : small64b i = true) (ha : DE X c a 0 [] [] (gC (.int i))) (hb : DE X c b 0 [] [] (gC (.int (e : Nat)))) : DE X c (.BinOp a .Pow b pos) 0 [] [] (gC (.int (i ^ e))) := by
  refine PE.imp (pe_op op_pow ha hb) fun σ H Q w => ?_
  obtain ⟨A, F, ρ, d, ρ', S, eg, k⟩ := w
  cases eg
  refine ⟨A, F, ρ, _, ρ, S, rfl, fun v A1 F1 H1 S1 N1 r1 => ⟨A1, F1, ρ, _, ρ, S1, rfl, fun u A2 F2 H2 S2 N2 r2 => ?_⟩⟩
  have hv := r1.froz0
  have hu := r2.froz0
  cases hv
  cases hu
  have hp : CPow i (e : Nat) := powC_ok (by unfold powC; rw [hi, Bool.and_true, Bool.and_eq_true]; exact ⟨decide_eq_true (by omega), decide_eq_true (by omega)⟩)
  exact ⟨i, _, rfl, rfl, hp, k _ A2 F2 H2 S2 (N1.after0 N2) (Res.of_froz (.int _))⟩
theorem log_ok : CMulW (10 ^ 60) (10 ^ 60) ∧ CMulW (10 ^ 60 * 10 ^ 60) (10 ^ 60) ∧ CMulW (10 ^ 60 * 10 ^ 60 * 10 ^ 60) (10 ^ 45) := by
  unfold CMulW
  refine ⟨?_, ?_, ?_⟩ <;> decide +kernel
variable {p1 p2 p3 p4 p5 p6 p7 p8 q1 q2 q3 q4 r1 r2 r3 : Pos} {k1 k2 k3 k4 k5 k6 k7 k8 : Nat}
theorem de_big : DE X c (.BinOp (.BinOp (.BinOp (.BinOp (.Constant (.int 10) k1 p1) .Pow (.Constant (.int 60) k2 p2) q1) .Mult (.BinOp (.Constant (.int 10) k3 p3) .Pow (.Constant (.int 60) k4 p4) q2) r1) .Mult (.BinOp (.Constant (.int 10) k5 p5) .Pow (.Constant (.int 60) k6 p6) q3) r2) .Mult (.BinOp (.Constant (.int 10) k7 p7) .Pow (.Constant (.int 45) k8 p8) q4) r3) 0 [] [] (gC (.int bigM)) := by
  have e : bigM = 10 ^ 60 * 10 ^ 60 * 10 ^ 60 * 10 ^ 45 := by rw [bigM_eq]; decide +kernel
  rw [e]
  have h60 : ∀ {a b : Nat} {p q r : Pos}, DE X c (.BinOp (.Constant (.int 10) a p) .Pow (.Constant (.int 60) b q) r) 0 [] [] (gC (.int (10 ^ 60))) := fun {a b p q r} => de_constP (e := 60) (by decide) (by decide +kernel) de_int de_int
  have h45 : ∀ {a b : Nat} {p q r : Pos}, DE X c (.BinOp (.Constant (.int 10) a p) .Pow (.Constant (.int 45) b q) r) 0 [] [] (gC (.int (10 ^ 45))) := fun {a b p q r} => de_constP (e := 45) (by decide) (by decide +kernel) de_int de_int
  exact de_constW log_ok.2.2 (de_constW log_ok.2.1 (de_constW log_ok.1 h60 h60) h60) h45
end
end DL

set_option Elab.async false
set_option linter.all false
set_option maxRecDepth 100000
set_option maxHeartbeats 4000000
/-! DL12: a, b = x, y; l.index(x) -/
namespace DL
open PySem L2 PyProof.Rows
section
variable {X : Cx} {c : Cfg} {a b e : Expr} {n n1 n2 m1 m2 : Nat} {da db M Ma Mb : List Nat} {ga gb : GE} {pos : Pos}
def sPar (i j : Nat) (ga gb : GE) : GS := fun ρ => (ga ρ).bind fun p => (gb p.2).bind fun q => if i < ρ.length ∧ j < ρ.length then some (.nx ((q.2.set j (some q.1)).set i (some p.1))) else none
theorem ds_par {i j d1 d2 : Nat} {x y : Str} {px py pt : Pos} {kt k2 pt2} (ha : DE X c a d1 [] Ma ga) (hb : DE X c b d2 [] Mb gb) (hc : X.calm = true) (hN : X.N.Nodup) (h1 : c.dep i = d1 := by rfl) (h2 : c.dep j = d2 := by rfl) (hi : i ∉ c.ino := by decide) (hj : j ∉ c.ino := by decide)
    (hxi : X.N[i]? = some x := by rfl) (hyj : X.N[j]? = some y := by rfl) (hij : i ≠ j := by decide)
    (hx : X.env.scope.names.lookup x = some .local := by rfl) (hy : X.env.scope.names.lookup y = some .local := by rfl)
    (hw : swappedStores [.Tuple [.Name x px, .Name y py] kt pt] (.Tuple [a, b] k2 pt2) X.env = pure (some [x, y]) := by rfl)
    (hs : swapsWithSole [.Tuple [.Name x px, .Name y py] kt pt] (.Tuple [a, b] k2 pt2) pos.line X.env = pure false := by rfl)
    (ha1 : starEach (a :: [b]) X.env = (false, eval a X.env) :: starEach [b] X.env := by rfl) (hb1 : starEach (b :: []) X.env = (false, eval b X.env) :: starEach [] X.env := by rfl) :
    DS X c n (.Assign [.Tuple [.Name x px, .Name y py] kt pt] (.Tuple [a, b] k2 pt2) pos) (i :: (Ma ++ (j :: Mb))) (sPar i j ga gb) := by
  subst h1 h2
  refine PS.imp (ps_par hc hN hxi hyj hij hx hy (pa_cons ha (pa_cons hb pa_nil hb1) ha1) hw hs) fun Ds σ H w => ?_
  obtain ⟨A, F, ρ, o, S, eg, k⟩ := w
  obtain ⟨⟨d1, ρ1⟩, e1, eg⟩ := Option.bind_eq_some_iff.mp eg
  obtain ⟨⟨d2, ρ2⟩, e2, eg⟩ := Option.bind_eq_some_iff.mp eg
  split at eg
  · rename_i hl
    cases eg
    refine ⟨A, F, ρ, d1, ρ1, S, e1, fun v A1 F1 H1 S1 N1 r1 => ?_⟩
    refine ⟨A1, F1, ρ1, d2, ρ2, S1, e2, fun u A2 F2 H2 S2 N2 r2 => ?_⟩
    have hli : i < σ.length := by rw [← S.len]; exact hl.1
    have hlj : j < σ.length := by rw [← S.len]; exact hl.2
    obtain ⟨A3, S3, N3⟩ := put_slot S2 N2 r2 hlj
    have r1' := r1.later N3 S3 (fun _ z => by cases z)
    obtain ⟨A4, S4, N4⟩ := put_slot S3 (N1.trans N3) r1' (by rw [List.length_set]; exact hli)
    refine ⟨v, u, rfl, ?_⟩
    rw [List.set_comm _ _ hij]
    exact k _ A4 F2 H2 S4 N4 ⟨by simp, fun l hl => by
      rw [List.getElem?_set_ne (fun z => hi (by rw [z]; exact hl)), List.getElem?_set_ne (fun z => hj (by rw [z]; exact hl))]⟩
  · cases eg
def sPar3 (i j l : Nat) (ga gb gd : GE) : GS := fun ρ => (ga ρ).bind fun p => (gb p.2).bind fun q => (gd q.2).bind fun r => if i < ρ.length ∧ j < ρ.length ∧ l < ρ.length then some (.nx (((r.2.set l (some r.1)).set j (some q.1)).set i (some p.1))) else none
theorem ds_par3 {i j l d1 d2 d3 : Nat} {x y z : Str} {px py pz pt : Pos} {kt k2 pt2} {Md : List Nat} {gd : GE} (ha : DE X c a d1 [] Ma ga) (hb : DE X c b d2 [] Mb gb) (hd : DE X c e d3 [] Md gd) (hc : X.calm = true) (hN : X.N.Nodup) (h1 : c.dep i = d1 := by rfl) (h2 : c.dep j = d2 := by rfl) (h3 : c.dep l = d3 := by rfl)
    (hi : i ∉ c.ino := by decide) (hj : j ∉ c.ino := by decide) (hl : l ∉ c.ino := by decide) (hxi : X.N[i]? = some x := by rfl) (hyj : X.N[j]? = some y := by rfl) (hzl : X.N[l]? = some z := by rfl) (hij : i ≠ j := by decide) (hil : i ≠ l := by decide) (hjl : j ≠ l := by decide)
    (hx : X.env.scope.names.lookup x = some .local := by rfl) (hy : X.env.scope.names.lookup y = some .local := by rfl) (hz : X.env.scope.names.lookup z = some .local := by rfl)
    (hw : swappedStores [.Tuple [.Name x px, .Name y py, .Name z pz] kt pt] (.Tuple [a, b, e] k2 pt2) X.env = pure (some [x, y, z]) := by rfl)
    (hs : swapsWithSole [.Tuple [.Name x px, .Name y py, .Name z pz] kt pt] (.Tuple [a, b, e] k2 pt2) pos.line X.env = pure false := by rfl)
    (ha1 : starEach (a :: [b, e]) X.env = (false, eval a X.env) :: starEach [b, e] X.env := by rfl) (hb1 : starEach (b :: [e]) X.env = (false, eval b X.env) :: starEach [e] X.env := by rfl) (hd1 : starEach (e :: []) X.env = (false, eval e X.env) :: starEach [] X.env := by rfl) :
    DS X c n (.Assign [.Tuple [.Name x px, .Name y py, .Name z pz] kt pt] (.Tuple [a, b, e] k2 pt2) pos) (i :: (Ma ++ (j :: (Mb ++ (l :: Md))))) (sPar3 i j l ga gb gd) := by
  subst h1 h2 h3
  refine PS.imp (ps_par3 hc hN hxi hyj hzl hij hil hjl hx hy hz (pa_cons ha (pa_cons hb (pa_cons hd pa_nil hd1) hb1) ha1) hw hs) fun Ds σ H w => ?_
  obtain ⟨A, F, ρ, o, S, eg, k⟩ := w
  obtain ⟨⟨d1, ρ1⟩, e1, eg⟩ := Option.bind_eq_some_iff.mp eg
  obtain ⟨⟨d2, ρ2⟩, e2, eg⟩ := Option.bind_eq_some_iff.mp eg
  obtain ⟨⟨d3, ρ3⟩, e3, eg⟩ := Option.bind_eq_some_iff.mp eg
  split at eg
  · rename_i hle
    cases eg
    refine ⟨A, F, ρ, d1, ρ1, S, e1, fun v A1 F1 H1 S1 N1 r1 => ?_⟩
    refine ⟨A1, F1, ρ1, d2, ρ2, S1, e2, fun u A2 F2 H2 S2 N2 r2 => ?_⟩
    refine ⟨A2, F2, ρ2, d3, ρ3, S2, e3, fun t A3 F3 H3 S3 N3 r3 => ?_⟩
    have hli : i < σ.length := by rw [← S.len]; exact hle.1
    have hlj : j < σ.length := by rw [← S.len]; exact hle.2.1
    have hll : l < σ.length := by rw [← S.len]; exact hle.2.2
    obtain ⟨A4, S4, N4⟩ := put_slot S3 N3 r3 hll
    have r2' := r2.later N4 S4 (fun _ z => by cases z)
    obtain ⟨A5, S5, N5⟩ := put_slot S4 (N2.trans N4) r2' (by rw [List.length_set]; exact hlj)
    have r1' := r1.later N5 S5 (fun _ z => by cases z)
    obtain ⟨A6, S6, N6⟩ := put_slot S5 (N1.trans N5) r1' (by rw [List.length_set, List.length_set]; exact hli)
    refine ⟨v, u, t, rfl, ?_⟩
    have e : (((σ.set i (some v)).set j (some u)).set l (some t)) = (((σ.set l (some t)).set j (some u)).set i (some v)) := by
      rw [List.set_comm _ _ hij, List.set_comm _ _ hil, List.set_comm _ _ hjl]
    rw [e]
    exact k _ A6 F3 H3 S6 N6 ⟨by simp, fun m hm => by
      rw [List.getElem?_set_ne (fun z => hi (by rw [z]; exact hm)), List.getElem?_set_ne (fun z => hj (by rw [z]; exact hm)), List.getElem?_set_ne (fun z => hl (by rw [z]; exact hm))]⟩
  · cases eg
/-! ### l.index(x) -/
def idxD (x y : D) : Option D := match x with
  | .list ds => if SeqAt.shaped (.list ds) = true ∧ SeqAt.shaped y = true then (ds.findIdx? fun z => PyData.eqv z y).map fun j => .int (j : Nat) else none
  | _ => none
theorem de_index {apos : Pos} (ha : DE X c a m1 da Ma ga) (hb : DE X c b 0 [] Mb gb) (hu : X.A.units + 65 < cLine) (hm : m1 = 0 ∨ m1 = 1 := by decide) (hd : ∀ i ∈ da, i ∉ Mb := by decide)
    (hbase : attributeBase a "index" X.env (eval a X.env) = eval a X.env := by rfl)
    (hfew : ((backTo pos (starEach (b :: []) X.env)).all (fun x => !x.1) && (backToKw pos (keywordEach [] X.env)).all (fun x => x.1.isSome)
      && decide ((b :: ([] : List Expr)).length + ([] : List Keyword).length + (if ([] : List Keyword).isEmpty then 0 else 1) < 30)) = true := by rfl)
    (hline : (apos.endLine == pos.line) = true := by rfl) (hs : starEach (b :: []) X.env = (false, eval b X.env) :: starEach [] X.env := by rfl) (hplain : (backTo pos (starEach [] X.env)).any (·.1) = false := by rfl) :
    DE X c (.Call (.Attribute a "index" apos) [b] [] pos) 0 [] (Ma ++ Mb) (gBin idxD ga gb) := by
  refine PE.imp (pe_bm PySem.F.plainAttrs_list PySem.F.slot_list_index PySem.F.type_list_index (mt_indexD hu) ha (pa_cons hb pa_nil hs) hbase hfew hline hs hplain) fun σ H Q w => ?_
  obtain ⟨A, F, ρ, d, ρ', S, eg, k⟩ := w
  obtain ⟨x, ρ1, y, e1, e2, e3⟩ := gBin_some eg
  refine ⟨A, F, ρ, x, ρ1, S, e1, fun vx A1 F1 H1 S1 N1 r1 => ?_⟩
  have hl1 := r1
  unfold idxD at e3
  cases x <;> simp only [reduceCtorEq] at e3
  rename_i ds
  split at e3
  · rename_i hsh
    obtain ⟨j, e4, e5⟩ := Option.map_eq_some_iff.mp e3
    subst e5
    obtain ⟨B1, o1, _⟩ := r1
    have ol : OwnL X.K F1 H1 1 vx (.list ds) B1 := o1.l hm
    have dp0 := (ol.dp1 S1.ex (nodict_shaped hsh.1)).to
    refine ⟨?_, A1, F1, ρ1, y, ρ', S1, e2, fun vy A2 F2 H2 S2 N2 r2 => ?_⟩
    · cases dp0 with
      | lst hs ha => exact .inl ⟨rfl, _, hs⟩
    · obtain ⟨B2, o2, _⟩ := hl1.later N2 S2 hd
      have ol2 : OwnL X.K F2 H2 1 vx (.list ds) B2 := o2.l hm
      have dp2 := (ol2.dp1 S2.ex (nodict_shaped hsh.1)).to
      have dy : L2.Dp X.K H2 vy y := ((Own.l (Own.froz0 r2.froz0) (.inl rfl) : OwnL X.K F2 H2 1 vy y []).dp1 S2.ex (nodict_shaped hsh.2)).to
      obtain ⟨hj, h3, h4⟩ := List.findIdx?_eq_some_iff_getElem.mp e4
      cases dp2 with
      | lst hs ha =>
        exact ⟨_, vy, y, ds, j, ds[j], rfl, rfl, .lst hs ha, dy, hsh.1, hsh.2, List.getElem?_eq_getElem hj, h3, fun m z' hm hz => by
          obtain ⟨hml, rfl⟩ := List.getElem?_eq_some_iff.mp hz
          have := h4 m hm
          simpa using this, k _ A2 F2 H2 S2 (N1.trans N2) (Res.of_froz (.int _))⟩
  · cases e3
end
end DL

set_option Elab.async false
set_option linter.all false
set_option maxRecDepth 100000
set_option maxHeartbeats 4000000
/-! DL13: min and max of three whole numbers -/
namespace DL
open PySem L2 PyProof.Rows
section
variable {X : Cx} {c : Cfg} {a b e : Expr} {n : Nat} {M Ma Mb Md : List Nat} {ga gb gd : GE} {pos p : Pos}
def gTri (op : Int → Int → Int → Int) (ga gb gd : GE) : GE := fun ρ => (ga ρ).bind fun p => (gb p.2).bind fun q => (gd q.2).bind fun r => (asI p.1).bind fun i => (asI q.1).bind fun j => (asI r.1).map fun k => (.int (op i j k), r.2)
def min3I (i j k : Int) : Int := if k < (if j < i then j else i) then k else if j < i then j else i
def max3I (i j k : Int) : Int := if (if i < j then j else i) < k then k else if i < j then j else i
theorem tri_core {op : Int → Int → Int → Int} {r : List V → Hp → VK → Prop} {K : Fr} {σ : L2.St} {H : Hp} {Q : VK} (w : tD K c 0 [] (Ma ++ (Mb ++ Md)) (gTri op ga gb gd) σ H Q)
    (hr : ∀ i j k H (Q : VK), Q (.int (op i j k)) H → r [.int i, .int j, .int k] H Q) : tCB r (tCons (tD K c 0 [] Ma ga) (tCons (tD K c 0 [] Mb gb) (tCons (tD K c 0 [] Md gd) tNil))) σ H Q := by
  obtain ⟨A, F, ρ, d, ρ', S, eg, kk⟩ := w
  obtain ⟨⟨d1, ρ1⟩, e1, eg⟩ := Option.bind_eq_some_iff.mp eg
  obtain ⟨⟨d2, ρ2⟩, e2, eg⟩ := Option.bind_eq_some_iff.mp eg
  obtain ⟨⟨d3, ρ3⟩, e3, eg⟩ := Option.bind_eq_some_iff.mp eg
  obtain ⟨i, h1, eg⟩ := Option.bind_eq_some_iff.mp eg
  obtain ⟨j, h2, eg⟩ := Option.bind_eq_some_iff.mp eg
  obtain ⟨k, h3, eg⟩ := Option.map_eq_some_iff.mp eg
  cases eg
  have h1 := asI_some h1
  have h2 := asI_some h2
  have h3 := asI_some h3
  subst h1 h2 h3
  refine ⟨A, F, ρ, _, ρ1, S, e1, fun vx A1 F1 H1 S1 N1 r1 => ?_⟩
  refine ⟨A1, F1, ρ1, _, ρ2, S1, e2, fun vy A2 F2 H2 S2 N2 r2 => ?_⟩
  refine ⟨A2, F2, ρ2, _, ρ3, S2, e3, fun vz A3 F3 H3 S3 N3 r3 => ?_⟩
  have q1 := r1.froz0
  have q2 := r2.froz0
  have q3 := r3.froz0
  cases q1
  cases q2
  cases q3
  exact hr i j k H3 Q (kk _ A3 F3 H3 S3 (N1.trans (N2.trans N3)) (Res.of_froz (.int _)))
theorem de_min3 {x : Str} (ha : DE X c a 0 [] Ma ga) (hb : DE X c b 0 [] Mb gb) (hd : DE X c e 0 [] Md gd) (hc : X.calm = true) (hx : X.mg x = none) (hg : Gl X x := by rfl) (hv : bootBuiltins x = some (.builtin "min") := by decide +kernel) (hn : x ≠ "__name__" := by decide) (hdb : (x == ("__debug__" : Str)) = false := by decide)
    (he : starEach (a :: [b, e]) X.env = (false, eval a X.env) :: starEach [b, e] X.env := by rfl) (he2 : starEach (b :: [e]) X.env = (false, eval b X.env) :: starEach [e] X.env := by rfl) (he3 : starEach (e :: []) X.env = (false, eval e X.env) :: starEach [] X.env := by rfl) (hpl : (backTo pos (starEach [b, e] X.env)).any (·.1) = false := by rfl) :
    DE X c (.Call (.Name x p) [a, b, e] [] pos) 0 [] (Ma ++ (Mb ++ Md)) (gTri min3I ga gb gd) :=
  PE.imp (pe_callB (call_min3Nu hc) hg hx hv (pa_cons ha (pa_cons hb (pa_cons hd pa_nil he3) he2) he) hn hdb he hpl) fun σ H Q w => tri_core w fun i j k H Q q => by
    refine ⟨.int i, .int j, .int k, _, rfl, ?_, q⟩
    have e : ∀ a b : Int, nuMin2 (.int a) (.int b) = some (.int (if b < a then b else a)) := fun a b => by
      show some (if decide (b < a) = true then V.int b else V.int a) = _
      by_cases h : b < a <;> simp [h]
    show (nuMin2 (.int i) (.int j)).bind _ = _
    rw [e]
    exact e _ _
theorem de_max3 {x : Str} (ha : DE X c a 0 [] Ma ga) (hb : DE X c b 0 [] Mb gb) (hd : DE X c e 0 [] Md gd) (hc : X.calm = true) (hx : X.mg x = none) (hg : Gl X x := by rfl) (hv : bootBuiltins x = some (.builtin "max") := by decide +kernel) (hn : x ≠ "__name__" := by decide) (hdb : (x == ("__debug__" : Str)) = false := by decide)
    (he : starEach (a :: [b, e]) X.env = (false, eval a X.env) :: starEach [b, e] X.env := by rfl) (he2 : starEach (b :: [e]) X.env = (false, eval b X.env) :: starEach [e] X.env := by rfl) (he3 : starEach (e :: []) X.env = (false, eval e X.env) :: starEach [] X.env := by rfl) (hpl : (backTo pos (starEach [b, e] X.env)).any (·.1) = false := by rfl) :
    DE X c (.Call (.Name x p) [a, b, e] [] pos) 0 [] (Ma ++ (Mb ++ Md)) (gTri max3I ga gb gd) :=
  PE.imp (pe_callB (call_max3Nu hc) hg hx hv (pa_cons ha (pa_cons hb (pa_cons hd pa_nil he3) he2) he) hn hdb he hpl) fun σ H Q w => tri_core w fun i j k H Q q => by
    refine ⟨.int i, .int j, .int k, _, rfl, ?_, q⟩
    have e : ∀ a b : Int, nuMax2 (.int a) (.int b) = some (.int (if a < b then b else a)) := fun a b => by
      show some (if decide (a < b) = true then V.int b else V.int a) = _
      by_cases h : a < b <;> simp [h]
    show (nuMax2 (.int i) (.int j)).bind _ = _
    rw [e]
    exact e _ _
end
end DL

set_option Elab.async false
set_option linter.all false
set_option maxRecDepth 100000
set_option maxHeartbeats 2000000
/-! EV: what the mirrors come to, plain data. -/
namespace DL
open PySem L2
/-! ### loops -/
theorem for_inv {gt : GG} {f : GS} {α : Type} {φ : α → D} (I : List α → Env → Prop) (Post : Env → Prop) (R : D → Env → Prop) :
    ∀ (xs : List α) (ρ : Env), I xs ρ →
    (∀ x r ρ, I (x :: r) ρ → ∃ ρ1 o, gt ρ (φ x) = some ρ1 ∧ f ρ1 = some o ∧ match o with
      | .nx ρ2 => I r ρ2
      | .ct ρ2 => I r ρ2
      | .bk ρ2 => Post ρ2
      | .rt d ρ2 => R d ρ2) →
    ∃ o, sForL gt f (xs.map φ) ρ = some o ∧ match o with
      | .nx ρ2 => I [] ρ2 ∨ Post ρ2
      | .rt d ρ2 => R d ρ2
      | _ => False
  | [], ρ, h, _ => ⟨.nx ρ, rfl, .inl h⟩
  | x :: r, ρ, h, st => by
    obtain ⟨ρ1, o, h1, h2, h3⟩ := st x r ρ h
    have e : sForL gt f ((x :: r).map φ) ρ = (match o with
      | .nx ρ2 => sForL gt f (r.map φ) ρ2
      | .ct ρ2 => sForL gt f (r.map φ) ρ2
      | .bk ρ2 => some (.nx ρ2)
      | .rt d ρ2 => some (.rt d ρ2)) := by
      rw [List.map_cons]
      simp only [sForL, h1, Option.bind_some, h2]
      cases o <;> rfl
    rw [e]
    cases o with
    | nx ρ2 => exact for_inv I Post R r ρ2 h3 st
    | ct ρ2 => exact for_inv I Post R r ρ2 h3 st
    | bk ρ2 => exact ⟨_, rfl, .inr h3⟩
    | rt d ρ2 => exact ⟨_, rfl, h3⟩
/-- a loop that runs through -/
theorem for_all {gt : GG} {f : GS} {α : Type} {φ : α → D} (I : List α → Env → Prop) (xs : List α) (ρ : Env) (h : I xs ρ)
    (st : ∀ x r ρ, x ∈ xs → I (x :: r) ρ → ∃ ρ1, gt ρ (φ x) = some ρ1 ∧ ∃ o, f ρ1 = some o ∧ match o with
      | .nx ρ2 => I r ρ2
      | .ct ρ2 => I r ρ2
      | _ => False) :
    ∃ ρ', sForL gt f (xs.map φ) ρ = some (.nx ρ') ∧ I [] ρ' := by
  obtain ⟨o, h1, h2⟩ := for_inv (φ := φ) (fun r ρ => I r ρ ∧ ∀ y ∈ r, y ∈ xs) (fun _ => False) (fun _ _ => False) xs ρ ⟨h, fun _ h => h⟩ fun x r ρ hI => by
    obtain ⟨ρ1, q1, o, q2, q3⟩ := st x r ρ (hI.2 x (by simp)) hI.1
    refine ⟨ρ1, o, q1, q2, ?_⟩
    have hr : ∀ y ∈ r, y ∈ xs := fun y hy => hI.2 y (List.mem_cons_of_mem _ hy)
    cases o with
    | nx _ => exact ⟨q3, hr⟩
    | ct _ => exact ⟨q3, hr⟩
    | bk _ => exact q3
    | rt _ _ => exact q3
  cases o with
  | nx ρ' => exact ⟨ρ', h1, (h2.resolve_right id).1⟩
  | rt d ρ' => exact h2.elim
  | bk ρ' => exact h2.elim
  | ct ρ' => exact h2.elim
/-- a comprehension that changes nothing -/
theorem lc_map {own : List Nat} {gt : GG} {gc : GT} {ge : GE} {α : Type} {φ : α → D} (p : α → Bool) (v : α → D) (ρ : Env) :
    ∀ (xs : List α), (∀ x ∈ xs, ∃ ρ1, gt ρ (φ x) = some ρ1 ∧ gc ρ1 = some (p x, ρ1) ∧ (p x = true → ge ρ1 = some (v x, ρ1)) ∧ wipeE ρ1 own = ρ) → lcL own gt gc ge (xs.map φ) ρ = some ((xs.filter p).map v, ρ)
  | [], _ => rfl
  | x :: r, h => by
    obtain ⟨ρ1, h1, h2, h3, h4⟩ := h x (by simp)
    have ih := lc_map (own := own) (gt := gt) (gc := gc) (ge := ge) (φ := φ) p v ρ r fun y hy => h y (List.mem_cons_of_mem _ hy)
    rw [List.map_cons]
    simp only [lcL, h1, h2, Option.bind_some]
    cases hp : p x with
    | true =>
      rw [if_pos rfl, h3 hp]
      simp only [Option.bind_some, h4, ih, List.filter_cons_of_pos hp, List.map_cons, Option.map_some]
    | false =>
      rw [if_neg Bool.false_ne_true, h4, ih, List.filter_cons_of_neg (by rw [hp]; exact Bool.false_ne_true)]
theorem lc_map0 {own : List Nat} {gt : GG} {ge : GE} {α : Type} {φ : α → D} (v : α → D) (ρ : Env) (xs : List α) (h : ∀ x ∈ xs, ∃ ρ1, gt ρ (φ x) = some ρ1 ∧ ge ρ1 = some (v x, ρ1) ∧ wipeE ρ1 own = ρ) : lcL own gt gcYes ge (xs.map φ) ρ = some (xs.map v, ρ) := by
  have := lc_map (own := own) (gt := gt) (gc := gcYes) (ge := ge) (φ := φ) (fun _ => true) v ρ xs fun x hx => by
    obtain ⟨ρ1, h1, h2, h3⟩ := h x hx
    exact ⟨ρ1, h1, rfl, fun _ => h2, h3⟩
  rw [this, List.filter_eq_self.mpr (by simp)]
theorem gLc_of {own : List Nat} {gi : GI} {gt : GG} {gc : GT} {ge : GE} {ρ ρ1 : Env} {ds xs : List D} (h1 : gi ρ = some (ds, ρ1)) (hl : ds.length ≤ lim) (h2 : lcL own gt gc ge ds (wipeE ρ1 own) = some (xs, wipeE ρ1 own)) : gLc own gi gt gc ge ρ = some (.list xs, backE ρ1 (wipeE ρ1 own) own) := by
  unfold gLc
  rw [h1]
  simp only [Option.bind_some]
  rw [if_pos hl, h2]
  rfl
/-! ### plain data -/
abbrev nD (k : Nat) : D := .int k
def pD (p : Nat × Nat) : D := .tuple [.int p.1, .int p.2]
def lD (l : List Nat) : D := .list (l.map nD)
def uD (l : List Nat) : D := .tuple (l.map nD)
def wD (n : Nat) (ts : List (Nat × Nat)) : D := .tuple [.int n, .tuple (ts.map pD)]
theorem rngL_nat (n : Nat) : rngL 0 n = (List.range n).map nD := by
  unfold rngL nD
  simp
theorem rngOk_nat {n : Nat} (h : n < 4611686018427387904) : rngOk n = true := by
  rw [rngOk_eq]
  simp only [Bool.and_eq_true, decide_eq_true_eq]
  omega
theorem ixN_nat {n k : Nat} (h : k < n) : ixN n (k : Int) = some k := by
  unfold ixN
  rw [if_pos (by omega), if_pos (by omega)]
  rfl
theorem atI_nat {α : Type} {xs : List α} {k : Nat} : atI xs (k : Int) = xs[k]? := by
  unfold atI ixN
  rw [if_pos (by omega)]
  by_cases h : k < xs.length
  · rw [if_pos (by omega)]
    rfl
  · rw [if_neg (by omega)]
    rw [List.getElem?_eq_none (by omega)]
    rfl
theorem atI_last {α : Type} {xs : List α} (h : xs ≠ []) : atI xs (-1) = xs[xs.length - 1]? := by
  have : 0 < xs.length := List.length_pos_iff.mpr h
  unfold atI ixN
  rw [if_neg (by omega), if_pos (by omega)]
  show xs[((-1 : Int) + xs.length).toNat]? = _
  congr 1
  omega
theorem intsOf_map {α : Type} {f : α → Int} : ∀ (l : List α), intsOf (l.map fun x => PyData.int (f x)) = some (l.map f)
  | [] => rfl
  | x :: r => by
    show (intsOf (r.map fun x => PyData.int (f x))).map _ = _
    rw [intsOf_map r]
    rfl
theorem intsOf_nD (l : List Nat) : intsOf (l.map nD) = some (l.map fun k : Nat => (k : Int)) := intsOf_map (f := fun k : Nat => (k : Int)) l
theorem and_nat (a b : Nat) : Builtin.bitAnd (a : Int) (b : Int) = ((a &&& b : Nat) : Int) := by
  have h1 : decide (0 ≤ (a : Int)) = true := decide_eq_true (by omega)
  have h2 : decide (0 ≤ (b : Int)) = true := decide_eq_true (by omega)
  unfold Builtin.bitAnd
  rw [h1, h2]
  rfl
theorem andnot_nat (a b : Nat) : Builtin.bitAnd (a : Int) (Builtin.bitNot (b : Int)) = (a : Int) - ((a &&& b : Nat) : Int) := by
  have h1 : decide (0 ≤ (a : Int)) = true := decide_eq_true (by omega)
  have h2 : decide (0 ≤ Builtin.bitNot (b : Int)) = false := decide_eq_false (by unfold Builtin.bitNot; omega)
  have h3 : (Builtin.bitNot (Builtin.bitNot (b : Int))).toNat = b := by unfold Builtin.bitNot; omega
  unfold Builtin.bitAnd
  rw [h1, h2]
  show (a : Int) - (((a : Int).toNat &&& (Builtin.bitNot (Builtin.bitNot (b : Int))).toNat : Nat) : Int) = _
  rw [h3]
  rfl
theorem or_nat (a b : Nat) : Builtin.bitOr (a : Int) (b : Int) = ((a ||| b : Nat) : Int) := by
  have h1 : decide (0 ≤ Builtin.bitNot (a : Int)) = false := decide_eq_false (by unfold Builtin.bitNot; omega)
  have h2 : decide (0 ≤ Builtin.bitNot (b : Int)) = false := decide_eq_false (by unfold Builtin.bitNot; omega)
  have h3 : ∀ k : Nat, (Builtin.bitNot (Builtin.bitNot (k : Int))).toNat = k := fun k => by unfold Builtin.bitNot; omega
  unfold Builtin.bitOr Builtin.bitAnd
  rw [h1, h2]
  show Builtin.bitNot (Builtin.bitNot (((Builtin.bitNot (Builtin.bitNot (a : Int))).toNat ||| (Builtin.bitNot (Builtin.bitNot (b : Int))).toNat : Nat) : Int)) = _
  rw [h3, h3]
  unfold Builtin.bitNot
  omega
theorem xor_nat (a b : Nat) : Builtin.bitXor (a : Int) (b : Int) = ((a ||| b : Nat) : Int) - ((a &&& b : Nat) : Int) := by
  unfold Builtin.bitXor
  rw [or_nat, and_nat]
/-! ### bits -/
theorem add_bit : ∀ (y a : Nat), a.testBit y = false → ∀ i, (a + 2 ^ y).testBit i = (a.testBit i || decide (i = y))
  | 0, a, h, i => by
    have h0 : a % 2 = 0 := by
      rw [Nat.testBit_zero] at h
      simpa using h
    cases i with
    | zero => rw [Nat.testBit_zero, Nat.testBit_zero]; simp; omega
    | succ i =>
      rw [Nat.testBit_succ, Nat.testBit_succ]
      have : (a + 2 ^ 0) / 2 = a / 2 := by simp; omega
      rw [this]
      simp
  | y + 1, a, h, i => by
    rw [Nat.testBit_succ] at h
    have e : (a + 2 ^ (y + 1)) / 2 = a / 2 + 2 ^ y := by rw [Nat.pow_succ]; omega
    cases i with
    | zero =>
      rw [Nat.testBit_zero, Nat.testBit_zero]
      have : (a + 2 ^ (y + 1)) % 2 = a % 2 := by rw [Nat.pow_succ]; omega
      rw [this]
      simp
    | succ i =>
      rw [Nat.testBit_succ, Nat.testBit_succ, e, add_bit y (a / 2) h i]
      simp
theorem sub_bit : ∀ (y a : Nat), a.testBit y = true → (∀ i, (a - 2 ^ y).testBit i = (a.testBit i && !decide (i = y))) ∧ 2 ^ y ≤ a
  | 0, a, h => by
    have h0 : a % 2 = 1 := by
      rw [Nat.testBit_zero] at h
      simpa using h
    refine ⟨fun i => ?_, by simp; omega⟩
    cases i with
    | zero => rw [Nat.testBit_zero, Nat.testBit_zero]; simp; omega
    | succ i =>
      rw [Nat.testBit_succ, Nat.testBit_succ]
      have : (a - 2 ^ 0) / 2 = a / 2 := by simp; omega
      rw [this]
      simp
  | y + 1, a, h => by
    rw [Nat.testBit_succ] at h
    obtain ⟨h1, h2⟩ := sub_bit y (a / 2) h
    have hp : 2 ^ (y + 1) = 2 * 2 ^ y := by rw [Nat.pow_succ]; omega
    have e : (a - 2 ^ (y + 1)) / 2 = a / 2 - 2 ^ y := by omega
    refine ⟨fun i => ?_, by omega⟩
    cases i with
    | zero =>
      rw [Nat.testBit_zero, Nat.testBit_zero]
      have : (a - 2 ^ (y + 1)) % 2 = a % 2 := by omega
      rw [this]
      simp
    | succ i =>
      rw [Nat.testBit_succ, Nat.testBit_succ, e, h1 i]
      simp
theorem and_bit {a y : Nat} : a &&& 2 ^ y = if a.testBit y = true then 2 ^ y else 0 := by
  apply Nat.eq_of_testBit_eq
  intro i
  rw [Nat.testBit_and, Nat.testBit_two_pow]
  by_cases h : y = i
  · subst h
    cases h2 : a.testBit y <;> simp [h2]
  · split
    · rw [Nat.testBit_two_pow]
      simp [h]
    · simp [h]
theorem or_bit_in {a y : Nat} (h : a.testBit y = true) : a ||| 2 ^ y = a := by
  apply Nat.eq_of_testBit_eq
  intro i
  rw [Nat.testBit_or, Nat.testBit_two_pow]
  by_cases h2 : y = i
  · subst h2
    simp [h]
  · simp [h2]
theorem or_bit_out {a y : Nat} (h : a.testBit y = false) : a ||| 2 ^ y = a + 2 ^ y := by
  apply Nat.eq_of_testBit_eq
  intro i
  rw [Nat.testBit_or, Nat.testBit_two_pow, add_bit y a h]
  by_cases h2 : y = i
  · subst h2
    simp
  · have : ¬ i = y := fun z => h2 z.symm
    simp [h2, this]
theorem xor_bit {a y : Nat} (h : a.testBit y = true) : Builtin.bitXor (a : Int) ((2 ^ y : Nat) : Int) = ((a - 2 ^ y : Nat) : Int) := by
  rw [xor_nat, or_bit_in h, and_bit, if_pos h]
  have := (sub_bit y a h).2
  omega

/-! ### the mirrors, as rewriting -/
section
variable {ρ : Env} {g ga gb gd : GE} {f h : GS} {i j : Nat}
@[simp] theorem v_sSeq : sSeq f h ρ = (f ρ).bind fun | .nx ρ1 => h ρ1 | o => some o := rfl
@[simp] theorem v_sNil : sNil ρ = some (.nx ρ) := rfl
@[simp] theorem v_sBrk : sBrk ρ = some (.bk ρ) := rfl
@[simp] theorem v_sCnt : sCnt ρ = some (.ct ρ) := rfl
@[simp] theorem v_sSet : sSet i g ρ = (g ρ).bind fun p => if i < ρ.length then some (.nx (p.2.set i (some p.1))) else none := rfl
@[simp] theorem v_sIf {t : GT} : sIf t f h ρ = (t ρ).bind fun p => if p.1 = true then f p.2 else h p.2 := rfl
@[simp] theorem v_sRet : sRet g ρ = (g ρ).map fun p => .rt p.1 p.2 := rfl
@[simp] theorem v_sRetN : sRetN ρ = some (.rt .none ρ) := rfl
@[simp] theorem v_sExpr : sExpr g ρ = (g ρ).map fun p => .nx p.2 := rfl
@[simp] theorem v_sFor {gi : GI} {gt : GG} : sFor gi gt f ρ = (gi ρ).bind fun p => sForL gt f p.1 p.2 := rfl
@[simp] theorem v_sAsg {gt : GG} : sAsg gt g ρ = (g ρ).bind fun p => (gt p.2 p.1).map .nx := rfl
@[simp] theorem v_sAug {sem : D → D → Option D} : sAug i sem g ρ = (g ρ).bind fun p => match ρ[i]? with
  | some (some x) => (sem x p.1).map fun z => .nx (p.2.set i (some z))
  | _ => none := rfl
@[simp] theorem v_gC {d : D} : gC d ρ = some (d, ρ) := rfl
@[simp] theorem v_gVar : gVar i ρ = match ρ[i]? with
  | some (some d) => some (d, ρ)
  | _ => none := rfl
@[simp] theorem v_gMove : gMove i ρ = match ρ[i]? with
  | some (some (.list ds)) => some (.list ds, ρ.set i none)
  | _ => none := rfl
@[simp] theorem v_gBin {sem : D → D → Option D} : gBin sem ga gb ρ = (ga ρ).bind fun p => (gb p.2).bind fun q => (sem p.1 q.1).map fun z => (z, q.2) := rfl
@[simp] theorem v_gUn {sem : D → Option D} : gUn sem ga ρ = (ga ρ).bind fun p => (sem p.1).map fun z => (z, p.2) := rfl
@[simp] theorem v_gT : gT g ρ = (g ρ).bind fun p => (asB p.1).map fun b => (b, p.2) := rfl
@[simp] theorem v_gTru : gTru g ρ = (g ρ).bind fun p => (truD p.1).map fun b => (b, p.2) := rfl
@[simp] theorem v_gAnd {g h : GT} : gAnd g h ρ = (g ρ).bind fun p => if p.1 = true then h p.2 else some (false, p.2) := rfl
@[simp] theorem v_gOr {g h : GT} : gOr g h ρ = (g ρ).bind fun p => if p.1 = true then some (true, p.2) else h p.2 := rfl
@[simp] theorem v_gNot {g : GT} : gNot g ρ = (g ρ).map fun p => (!p.1, p.2) := rfl
@[simp] theorem v_gAndV {g h : GE} : gAndV g h ρ = (gT g ρ).bind fun p => if p.1 = true then h p.2 else some (.bool false, p.2) := rfl
@[simp] theorem v_gOrV {g h : GE} : gOrV g h ρ = (gT g ρ).bind fun p => if p.1 = true then some (.bool true, p.2) else h p.2 := rfl
@[simp] theorem v_gNotV {g : GE} : gNotV g ρ = (gT g ρ).map fun p => (.bool (!p.1), p.2) := rfl
@[simp] theorem v_gIf {t : GT} {g h : GE} : gIf t g h ρ = (t ρ).bind fun p => if p.1 = true then g p.2 else h p.2 := rfl
@[simp] theorem v_gNil : gNil ρ = some ([], ρ) := rfl
@[simp] theorem v_gCons {r : GA} : gCons g r ρ = (g ρ).bind fun p => (r p.2).map fun q => (p.1 :: q.1, q.2) := rfl
@[simp] theorem v_gConsB {r : GA} : gConsB j r ρ = match ρ[j]? with
  | some (some _) => (r ρ).map fun q => (.none :: q.1, q.2)
  | _ => none := rfl
@[simp] theorem v_gTup {r : GA} : gTup r ρ = (r ρ).bind fun p => if p.1.length ≤ lim then some (.tuple p.1, p.2) else none := rfl
@[simp] theorem v_gLst {r : GA} : gLst r ρ = (r ρ).bind fun p => if p.1.length ≤ lim then some (.list p.1, p.2) else none := rfl
@[simp] theorem v_gCall {bs : List (Option Nat)} {m : List D → Option (D × List D)} {r : GA} : gCall bs m r ρ = (r ρ).bind fun p => (fillB p.2 bs p.1).bind fun ds => (m ds).map fun r => (r.1, putB p.2 bs r.2) := rfl
@[simp] theorem v_gCallK {perm : List Nat} {m : List D → Option (D × List D)} {r : GA} : gCallK perm m r ρ = (r ρ).bind fun p => if p.1.length = perm.length then (m (permL .none perm p.1)).map fun r => (r.1, p.2) else none := rfl
@[simp] theorem v_gLO : gLO g ρ = (g ρ).bind fun p => match p.1 with
  | .list ds => some (.list ds, p.2)
  | _ => none := rfl
@[simp] theorem v_gFlat : gFlat g ρ = (g ρ).bind fun p => if isLD p.1 = true then none else some p := rfl
@[simp] theorem v_gApp : gApp i g ρ = (getL i ρ).bind fun _ => (g ρ).bind fun p => (getL i p.2).bind fun ds => if ds.length ≤ lim then some (.none, p.2.set i (some (.list (ds ++ [p.1])))) else none := rfl
@[simp] theorem v_gLst3 {g1 g2 g3 : GE} : gLst3 g1 g2 g3 ρ = (g1 ρ).bind fun p => (g2 p.2).bind fun q => (g3 q.2).bind fun r => if isLD p.1 = true ∨ isLD r.1 = true then none else some (.list [p.1, q.1, r.1], r.2) := rfl
@[simp] theorem v_giS : giS g ρ = (g ρ).bind fun p => (itemsD p.1).map fun ds => (ds, p.2) := rfl
@[simp] theorem v_giR1 : giR1 g ρ = (g ρ).bind fun p => match p.1 with
  | .int j => if rngOk j = true then some (rngL 0 j.toNat, p.2) else none
  | _ => none := Eq.trans (Eq.refl _) (Eq.refl _)
@[simp] theorem v_giR2 : giR2 ga gb ρ = (ga ρ).bind fun p => (gb p.2).bind fun q => match p.1, q.1 with
  | .int i, .int j => if rngOk i = true ∧ rngOk j = true then some (rngL i (j - i).toNat, q.2) else none
  | _, _ => none := Eq.trans (Eq.refl _) (Eq.refl _)
@[simp] theorem v_ggName {d : D} : ggName i ρ d = if i < ρ.length then some (ρ.set i (some d)) else none := rfl
@[simp] theorem v_ggTup {m : Nat} {r : Env → List D → Option Env} {ds : List D} : ggTup m r ρ (.tuple ds) = if ds.length = m then r ρ ds else none := rfl
@[simp] theorem v_ggUnl {m : Nat} {r : Env → List D → Option Env} {ds : List D} : ggUnl m r ρ (.list ds) = if ds.length = m then r ρ ds else none := rfl
@[simp] theorem v_ggCons {gt : GG} {r : Env → List D → Option Env} {d : D} {ds : List D} : ggCons gt r ρ (d :: ds) = (gt ρ d).bind fun ρ1 => r ρ1 ds := rfl
@[simp] theorem v_sAliasPop : sAliasPop i j ρ = (getL i ρ).bind fun ds => (getLD ds[1]?).bind fun cs => (cs[cs.length - 1]?).bind fun x => (asI x).bind fun z =>
  if j < ρ.length then some (.nx ((ρ.set i (some (.list ((ds.set 1 (.list cs.dropLast)).set 0 (.int (if z < 0 then -z else z)))))).set j none)) else none := rfl
@[simp] theorem v_sSetIx2 {gi ge : GE} : sSetIx2 i gi ge ρ = (getL i ρ).bind fun _ => (ge ρ).bind fun p => (gi p.2).bind fun q => (asI q.1).bind fun j => (getL i q.2).bind fun ds => (ixN ds.length j).bind fun m => if isLD p.1 = true then none else some (.nx (q.2.set i (some (.list (ds.set m p.1))))) := rfl
@[simp] theorem v_sSetIx {gi ge : GE} : sSetIx i gi ge ρ = (getL i ρ).bind fun _ => (ge ρ).bind fun p => (gi p.2).bind fun q => (asI q.1).bind fun j => (getL i q.2).bind fun ds => (ixN ds.length j).map fun m => .nx (q.2.set i (some (.list (ds.set m p.1)))) := rfl
@[simp] theorem v_getL : getL i ρ = match ρ[i]? with
  | some (some (.list ds)) => some ds
  | _ => none := rfl
@[simp] theorem v_getLD {ds : List D} : getLD (some (.list ds)) = some ds := rfl
@[simp] theorem v_asI {k : Int} : asI (.int k) = some k := rfl
@[simp] theorem v_asB {b : Bool} : asB (.bool b) = some b := rfl
@[simp] theorem v_truI {k : Int} : truD (.int k) = some (k != 0) := rfl
@[simp] theorem v_truB {b : Bool} : truD (.bool b) = some b := rfl
@[simp] theorem v_iD {op : Int → Int → Int} {a b : Int} : iD op (.int a) (.int b) = some (.int (op a b)) := rfl
@[simp] theorem v_iCD {cb : Int → Int → Bool} {op : Int → Int → Int} {a b : Int} : iCD cb op (.int a) (.int b) = if cb a b = true then some (.int (op a b)) else none := rfl
@[simp] theorem v_iU {op : Int → Int} {a : Int} : iU op (.int a) = some (.int (op a)) := rfl
@[simp] theorem v_bI {op : Int → Int → Bool} {a b : Int} : bI op (.int a) (.int b) = some (.bool (op a b)) := rfl
@[simp] theorem v_addI {a b : Int} : addD (.int a) (.int b) = some (.int (a + b)) := rfl
@[simp] theorem v_ltI {a b : Int} : ltD (.int a) (.int b) = some (.bool (decide (a < b))) := rfl
@[simp] theorem v_intI {a : Int} : intD (.int a) = some (.int a) := rfl
@[simp] theorem v_lenL {ds : List D} : lenD (.list ds) = some (.int ds.length) := rfl
@[simp] theorem v_lenT {ds : List D} : lenD (.tuple ds) = some (.int ds.length) := rfl
@[simp] theorem v_itL {ds : List D} : itemsD (.list ds) = some ds := rfl
@[simp] theorem v_itT {ds : List D} : itemsD (.tuple ds) = some ds := rfl
@[simp] theorem v_listD {d : D} : listD d = (itemsD d).map .list := rfl
@[simp] theorem v_tupleD {d : D} : tupleD d = (itemsD d).map .tuple := rfl
@[simp] theorem v_revD {ds : List D} : revD (.list ds) = some (.list ds.reverse) := rfl
@[simp] theorem v_ixL {ds : List D} {k : Int} : ixD (.list ds) (.int k) = atI ds k := rfl
@[simp] theorem v_ixT {ds : List D} {k : Int} : ixD (.tuple ds) (.int k) = atI ds k := rfl
@[simp] theorem v_ixLL {ds : List D} {k : Int} : ixLD (.list ds) (.int k) = atI ds k := rfl
@[simp] theorem v_isLDi {k : Int} : isLD (.int k) = false := rfl
@[simp] theorem v_isLDb {k : Bool} : isLD (.bool k) = false := rfl
@[simp] theorem v_isLDt {k : List D} : isLD (.tuple k) = false := rfl
@[simp] theorem v_isLDl {k : List D} : isLD (.list k) = true := rfl
@[simp] theorem v_modC {a b : Int} : modC a b = decide (0 < b) := rfl
@[simp] theorem v_divC {a b : Int} : divC a b = (decide (0 < b) && decide (b < 18446744073709551616)) := rfl
@[simp] theorem v_shrC {a b : Int} : shrC a b = decide (0 ≤ b) := rfl
@[simp] theorem v_powC {a b : Int} : powC a b = (decide (0 ≤ b) && decide (b ≤ 1000) && small64b a) := rfl
@[simp] theorem v_mulC {a b : Int} : mulC a b = (small64b a || small64b b) := rfl
@[simp] theorem v_small {a : Int} : small64b a = (decide (-18446744073709551616 < a) && decide (a < 18446744073709551616)) := rfl
@[simp] theorem v_runFn {ino : List Nat} {nN : Nat} {gf : GS} {ds : List D} : runFn ino nN gf ds = (gf (ds.map some ++ List.replicate (nN - ds.length) none)).bind fun
  | .rt d ρ' => (finals ino ρ' 0 ds).map fun fin => (d, fin)
  | .nx ρ' => (finals ino ρ' 0 ds).map fun fin => (.none, fin)
  | _ => none := rfl
@[simp] theorem v_fin0 {ino : List Nat} {k : Nat} : finals ino ρ k [] = some [] := rfl
@[simp] theorem v_fin1 {ino : List Nat} {k : Nat} {d : D} {ds : List D} : finals ino ρ k (d :: ds) = (if k ∈ ino then (match ρ[k]? with | some (some d') => some d' | _ => none) else some d).bind fun d' => (finals ino ρ (k + 1) ds).map (d' :: ·) := rfl
@[simp] theorem v_fill0 : fillB ρ [] [] = some [] := rfl
@[simp] theorem v_fillN {bs : List (Option Nat)} {d : D} {ds : List D} : fillB ρ (none :: bs) (d :: ds) = (fillB ρ bs ds).map (d :: ·) := rfl
@[simp] theorem v_fillS {bs : List (Option Nat)} {d : D} {ds : List D} : fillB ρ (some j :: bs) (d :: ds) = match ρ[j]? with
  | some (some d) => (fillB ρ bs ds).map (d :: ·)
  | _ => none := rfl
@[simp] theorem v_put0 {ds : List D} : putB ρ [] ds = ρ := by
  cases ds <;> rfl
@[simp] theorem v_putN {bs : List (Option Nat)} {d : D} {ds : List D} : putB ρ (none :: bs) (d :: ds) = putB ρ bs ds := rfl
@[simp] theorem v_putS {bs : List (Option Nat)} {d : D} {ds : List D} : putB ρ (some j :: bs) (d :: ds) = (putB ρ bs ds).set j (some d) := rfl
@[simp] theorem v_lim : lim = 1000000 := rfl
@[simp] theorem v_isi0 {T : String} {l : List D} : isiD T (.list l) = (kitB (tyD (.list l)) T).map .bool := rfl
@[simp] theorem v_isi1 {T : String} {l : List D} : isiD T (.tuple l) = (kitB (tyD (.tuple l)) T).map .bool := rfl
@[simp] theorem v_isi2 {T : String} {l : Int} : isiD T (.int l) = (kitB (tyD (.int l)) T).map .bool := rfl
@[simp] theorem v_isi3 {T : String} {l : Bool} : isiD T (.bool l) = (kitB (tyD (.bool l)) T).map .bool := rfl
@[simp] theorem v_isi4 {T : String} {l : PySem.Str} : isiD T (.str l) = (kitB (tyD (.str l)) T).map .bool := rfl
@[simp] theorem v_isi5 {T : String} : isiD T (.none) = (kitB (tyD (.none)) T).map .bool := rfl
@[simp] theorem v_eqI {a b : Int} : eqD (.int a) (.int b) = some (.bool (a == b)) := by
  unfold eqD
  rw [if_pos ⟨rfl, rfl⟩]
  rfl
@[simp] theorem v_eqB {a b : Bool} : eqD (.bool a) (.bool b) = some (.bool (a == b)) := by
  unfold eqD
  rw [if_pos ⟨rfl, rfl⟩]
  rfl
@[simp] theorem v_neI {a b : Int} : neD (.int a) (.int b) = some (.bool (!(a == b))) := by
  unfold neD
  rw [if_pos ⟨rfl, rfl⟩]
  rfl
@[simp] theorem v_neB {a b : Bool} : neD (.bool a) (.bool b) = some (.bool (!(a == b))) := by
  unfold neD
  rw [if_pos ⟨rfl, rfl⟩]
  rfl
end
/-! ### what may be compared -/
/-- ints, and tuples and lists of such -/
def flat1 : D → Bool
  | .int _ => true
  | .bool _ => true
  | _ => false
theorem lay_flat : ∀ {l : List D}, (∀ x ∈ l, flat1 x = true) → PyData.canLayAll0 l = true ∧ PyData.depthAll l = 0
  | [], _ => ⟨rfl, rfl⟩
  | x :: r, h => by
    obtain ⟨h1, h2⟩ := lay_flat (l := r) fun y hy => h y (List.mem_cons_of_mem _ hy)
    have hx := h x (by simp)
    cases x <;> simp [flat1] at hx
    all_goals exact ⟨by show (true && _) = true; rw [h1]; rfl, by show max 0 _ = 0; rw [h2]; rfl⟩
theorem shaped_flat {l : List D} (h : ∀ x ∈ l, flat1 x = true) : SeqAt.shaped (.list l) = true ∧ SeqAt.shaped (.tuple l) = true := by
  obtain ⟨h1, h2⟩ := lay_flat h
  have e1 : (PyData.list l).depth = 1 := by show PyData.depthAll l + 1 = 1; rw [h2]
  have e2 : (PyData.tuple l).depth = 1 := by show PyData.depthAll l + 1 = 1; rw [h2]
  unfold SeqAt.shaped
  rw [e1, e2]
  exact ⟨by show (PyData.canLayAll0 l && _) = true; rw [h1]; rfl, by show (PyData.canLayAll0 l && _) = true; rw [h1]; rfl⟩
theorem shaped_ints {α : Type} (f : α → Int) (l : List α) : SeqAt.shaped (.list (l.map fun x => .int (f x))) = true ∧ SeqAt.shaped (.tuple (l.map fun x => .int (f x))) = true :=
  shaped_flat fun x hx => by
    obtain ⟨y, _, rfl⟩ := List.mem_map.mp hx
    rfl
theorem shaped_pD (p : Nat × Nat) : SeqAt.shaped (pD p) = true := (shaped_flat (l := [.int p.1, .int p.2]) (by simp [flat1])).2
theorem shaped_prs (l : List (Nat × Nat)) : SeqAt.shaped (.list (l.map pD)) = true ∧ SeqAt.shaped (.tuple (l.map pD)) = true := by
  have h : PyData.canLayAll0 (l.map pD) = true ∧ PyData.depthAll (l.map pD) ≤ 1 := by
    induction l with
    | nil => exact ⟨rfl, by show 0 ≤ 1; omega⟩
    | cons p r ih =>
      refine ⟨?_, ?_⟩
      · show (PyData.canLay0 (pD p) && PyData.canLayAll0 (r.map pD)) = true
        rw [ih.1]
        rfl
      · show max 1 (PyData.depthAll (r.map pD)) ≤ 1
        omega
  have e1 : (PyData.list (l.map pD)).depth ≤ 64 := by show PyData.depthAll _ + 1 ≤ 64; omega
  have e2 : (PyData.tuple (l.map pD)).depth ≤ 64 := by show PyData.depthAll _ + 1 ≤ 64; omega
  unfold SeqAt.shaped
  exact ⟨by rw [decide_eq_true e1]; show (PyData.canLayAll0 _ && _) = true; rw [h.1]; rfl, by rw [decide_eq_true e2]; show (PyData.canLayAll0 _ && _) = true; rw [h.1]; rfl⟩
theorem eqvAll_ints {α : Type} (f : α → Int) : ∀ (l m : List α), (∀ x y, f x = f y → x = y) → PyData.eqvAll (l.map fun x => .int (f x)) (m.map fun x => .int (f x)) = decide (l.map f = m.map f)
  | [], [], _ => rfl
  | [], _ :: _, _ => rfl
  | _ :: _, [], _ => rfl
  | x :: l, y :: m, hf => by
    show (f x == f y && PyData.eqvAll (l.map fun x => .int (f x)) (m.map fun x => .int (f x))) = _
    rw [eqvAll_ints f l m hf]
    by_cases h : f x = f y
    · simp [h]
    · simp [h]
theorem eqv_nats (l m : List Nat) : PyData.eqvAll (l.map nD) (m.map nD) = decide (l = m) := by
  rw [show (l.map nD) = l.map fun k : Nat => PyData.int (k : Int) from rfl, show (m.map nD) = m.map fun k : Nat => PyData.int (k : Int) from rfl, eqvAll_ints (fun k : Nat => (k : Int)) l m (fun x y h => by omega)]
  by_cases h : l = m
  · subst h; simp
  · have : ¬ (l.map fun k : Nat => (k : Int)) = (m.map fun k : Nat => (k : Int)) := fun z => h (by
      exact (List.map_inj_right (f := fun k : Nat => (k : Int)) (fun x y h => by omega)).mp z)
    simp [h, this]
theorem v_eqL (l m : List Nat) : eqD (.list (l.map nD)) (.list (m.map nD)) = some (.bool (decide (l = m))) := by
  unfold eqD
  rw [if_pos ⟨(shaped_ints (fun k : Nat => (k : Int)) l).1, (shaped_ints (fun k : Nat => (k : Int)) m).1⟩]
  show some (PyData.bool (PyData.eqvAll _ _)) = _
  rw [eqv_nats]
theorem v_neL (l m : List Nat) : neD (.list (l.map nD)) (.list (m.map nD)) = some (.bool (!decide (l = m))) := by
  unfold neD
  rw [if_pos ⟨(shaped_ints (fun k : Nat => (k : Int)) l).1, (shaped_ints (fun k : Nat => (k : Int)) m).1⟩]
  show some (PyData.bool (!PyData.eqvAll _ _)) = _
  rw [eqv_nats]
theorem any_nat (l : List Nat) (k : Nat) : ((l.map nD).any fun z => PyData.eqv z (nD k)) = decide (k ∈ l) := by
  induction l with
  | nil => rfl
  | cons x r ih =>
    rw [List.map_cons, List.any_cons, ih]
    show (((x : Int) == (k : Int)) || _) = _
    by_cases h : x = k
    · subst h; simp
    · have : ¬ k = x := fun z => h z.symm
      have h2 : ((x : Int) == (k : Int)) = false := by simp; omega
      simp [h2, this]
theorem v_inU (neg : Bool) (l : List Nat) (k : Nat) : inD neg (nD k) (.tuple (l.map nD)) = some (.bool (xor neg (decide (k ∈ l)))) := by
  unfold inD
  show (if _ then _ else _) = _
  rw [if_pos ⟨rfl, (shaped_ints (fun k : Nat => (k : Int)) l).2⟩, any_nat]
theorem v_inL (neg : Bool) (l : List Nat) (k : Nat) : inD neg (nD k) (.list (l.map nD)) = some (.bool (xor neg (decide (k ∈ l)))) := by
  unfold inD
  show (if _ then _ else _) = _
  rw [if_pos ⟨rfl, (shaped_ints (fun k : Nat => (k : Int)) l).1⟩, any_nat]
theorem any_pr (l : List (Nat × Nat)) (p : Nat × Nat) : ((l.map pD).any fun z => PyData.eqv z (pD p)) = decide (p ∈ l) := by
  induction l with
  | nil => rfl
  | cons x r ih =>
    rw [List.map_cons, List.any_cons, ih]
    show (((x.1 : Int) == (p.1 : Int) && (((x.2 : Int) == (p.2 : Int)) && true)) || _) = _
    by_cases h : x = p
    · subst h; simp
    · have h1 : ¬ p = x := fun z => h z.symm
      have h2 : ¬ (x.1 = p.1 ∧ x.2 = p.2) := fun z => h (Prod.ext z.1 z.2)
      have h3 : ((x.1 : Int) == (p.1 : Int) && (((x.2 : Int) == (p.2 : Int)) && true)) = false := by
        rw [Bool.and_true]
        by_cases q : x.1 = p.1
        · have : ¬ x.2 = p.2 := fun z => h2 ⟨q, z⟩
          have : ((x.2 : Int) == (p.2 : Int)) = false := by simp; omega
          rw [this, Bool.and_false]
        · have : ((x.1 : Int) == (p.1 : Int)) = false := by simp; omega
          rw [this, Bool.false_and]
      rw [h3]
      simp [h1]
theorem v_inP (neg : Bool) (l : List (Nat × Nat)) (p : Nat × Nat) : inD neg (pD p) (.tuple (l.map pD)) = some (.bool (xor neg (decide (p ∈ l)))) := by
  unfold inD
  show (if _ then _ else _) = _
  rw [if_pos ⟨shaped_pD p, (shaped_prs l).2⟩, any_pr]
end DL

set_option Elab.async false
set_option linter.all false
set_option maxRecDepth 100000
set_option maxHeartbeats 2000000
namespace DL
open PySem L2
@[simp] theorem at0 {α : Type} {x : α} {l : List α} : atI (x :: l) 0 = some x := atI_nat (k := 0)
@[simp] theorem at1 {α : Type} {x y : α} {l : List α} : atI (x :: y :: l) 1 = some y := atI_nat (k := 1)
@[simp] theorem at2 {α : Type} {x y z : α} {l : List α} : atI (x :: y :: z :: l) 2 = some z := atI_nat (k := 2)
@[simp] theorem ix30 : ixN 3 0 = some 0 := rfl
@[simp] theorem ix31 : ixN 3 1 = some 1 := rfl
@[simp] theorem ix32 : ixN 3 2 = some 2 := rfl
theorem atm {α β : Type} {f : α → β} {l : List α} {k : Nat} {x : α} (h : l[k]? = some x) : atI (l.map f) (k : Int) = some (f x) := by
  rw [atI_nat, List.getElem?_map, h]
  rfl
@[simp] theorem atn {α : Type} {l : List α} {k : Nat} : atI l (k : Int) = l[k]? := atI_nat
theorem wipe1 {ρ : Env} {v : Nat} : wipeE ρ [v] = ρ.set v none := rfl
@[simp] theorem v_wipe0 {ρ : Env} : wipeE ρ [] = ρ := rfl
@[simp] theorem v_wipe1 {ρ : Env} {v : Nat} {vs : List Nat} : wipeE ρ (v :: vs) = (wipeE ρ vs).set v none := rfl
@[simp] theorem v_back0 {ρ0 ρ : Env} : backE ρ0 ρ [] = ρ := rfl
@[simp] theorem v_back1 {ρ0 ρ : Env} {v : Nat} {vs : List Nat} : backE ρ0 ρ (v :: vs) = match ρ0[v]? with
  | some x => (backE ρ0 ρ vs).set v x
  | none => backE ρ0 ρ vs := rfl
@[simp] theorem v_gLc {own : List Nat} {gi : GI} {gt : GG} {gc : GT} {ge : GE} {ρ : Env} : gLc own gi gt gc ge ρ = (gi ρ).bind fun p => if p.1.length ≤ lim then (lcL own gt gc ge p.1 (wipeE p.2 own)).map fun r => (.list r.1, backE p.2 r.2 own) else none := rfl
@[simp] theorem rng_nat {n : Nat} : rngL 0 n = (List.range n).map nD := rngL_nat n
theorem emod_nat (z : Int) {m : Nat} (h : 0 < m) : ∃ r : Nat, r < m ∧ z % (m : Int) = r := ⟨(z % (m : Int)).toNat, by
    have := Int.emod_lt_of_pos z (by omega : (0 : Int) < m)
    have := Int.emod_nonneg z (by omega : (m : Int) ≠ 0)
    omega, by
    have := Int.emod_nonneg z (by omega : (m : Int) ≠ 0)
    omega⟩
theorem ne_nil (l : List Int) : neD (.list (l.map .int)) (.list []) = some (.bool (!l.isEmpty)) := by
  unfold neD
  rw [if_pos ⟨(shaped_ints (fun k : Int => k) l).1, rfl⟩]
  cases l <;> rfl
theorem kit_bb : kitB "bool" "bool" = some true := by decide +kernel
end DL

set_option Elab.async false
set_option linter.all false
set_option maxRecDepth 100000
set_option maxHeartbeats 2000000
namespace DL
open PySem L2
theorem rngL_eq (lo n : Nat) : rngL lo n = (List.range' lo n).map nD := by
  unfold rngL
  rw [List.range'_eq_map_range, List.map_map]
  exact List.map_congr_left fun k _ => by simp
theorem range'_cons {k m x : Nat} {r : List Nat} (h : x :: r = List.range' k m) : x = k ∧ 0 < m ∧ r = List.range' (k + 1) (m - 1) := by
  cases m with
  | zero => simp at h
  | succ m =>
    rw [List.range'_succ] at h
    cases h
    exact ⟨rfl, by omega, by simp⟩
theorem for_rngX {gt : GG} {f : GS} (lo n : Nat) (I : Nat → Env → Prop) (Post : Env → Prop) (R : D → Env → Prop) (ρ : Env) (h : I lo ρ)
    (st : ∀ k ρ, lo ≤ k → k < lo + n → I k ρ → ∃ ρ1, gt ρ (nD k) = some ρ1 ∧ ∃ o, f ρ1 = some o ∧ match o with
      | .nx ρ2 => I (k + 1) ρ2
      | .ct ρ2 => I (k + 1) ρ2
      | .bk ρ2 => Post ρ2
      | .rt d ρ2 => R d ρ2) :
    ∃ o, sForL gt f (rngL lo n) ρ = some o ∧ match o with
      | .nx ρ2 => I (lo + n) ρ2 ∨ Post ρ2
      | .rt d ρ2 => R d ρ2
      | _ => False := by
  rw [rngL_eq]
  obtain ⟨o, h1, h2⟩ := for_inv (φ := nD) (gt := gt) (f := f) (fun r ρ => ∃ k, lo ≤ k ∧ k ≤ lo + n ∧ r = List.range' k (lo + n - k) ∧ I k ρ) Post R (List.range' lo n) ρ ⟨lo, Nat.le_refl _, by omega, by congr 1; omega, h⟩ (by
    rintro x r ρ ⟨k, hk1, hk2, hr, hI⟩
    obtain ⟨rfl, hm, rfl⟩ := range'_cons hr
    obtain ⟨ρ1, q1, o, q2, q3⟩ := st x ρ hk1 (by omega) hI
    refine ⟨ρ1, o, q1, q2, ?_⟩
    have e : lo + n - x - 1 = lo + n - (x + 1) := by omega
    cases o with
    | nx ρ2 => exact ⟨x + 1, by omega, by omega, by rw [e], q3⟩
    | ct ρ2 => exact ⟨x + 1, by omega, by omega, by rw [e], q3⟩
    | bk ρ2 => exact q3
    | rt d ρ2 => exact q3)
  refine ⟨o, h1, ?_⟩
  cases o with
  | nx ρ2 =>
    rcases h2 with ⟨k, hk1, hk2, hr, hI⟩ | h2
    · have : lo + n - k = 0 := by
        have := congrArg List.length hr
        simpa using this.symm
      have : k = lo + n := by omega
      subst this
      exact .inl hI
    · exact .inr h2
  | rt d ρ2 => exact h2
  | bk ρ2 => exact h2
  | ct ρ2 => exact h2
theorem for_rng {gt : GG} {f : GS} (lo n : Nat) (I : Nat → Env → Prop) (ρ : Env) (h : I lo ρ)
    (st : ∀ k ρ, lo ≤ k → k < lo + n → I k ρ → ∃ ρ1, gt ρ (nD k) = some ρ1 ∧ ∃ o, f ρ1 = some o ∧ match o with
      | .nx ρ2 => I (k + 1) ρ2
      | .ct ρ2 => I (k + 1) ρ2
      | _ => False) :
    ∃ ρ', sForL gt f (rngL lo n) ρ = some (.nx ρ') ∧ I (lo + n) ρ' := by
  obtain ⟨o, h1, h2⟩ := for_rngX lo n I (fun _ => False) (fun _ _ => False) ρ h (by
    intro k ρ h1 h2 h3
    obtain ⟨ρ1, q1, o, q2, q3⟩ := st k ρ h1 h2 h3
    exact ⟨ρ1, q1, o, q2, by cases o <;> exact q3⟩)
  cases o with
  | nx ρ' => exact ⟨ρ', h1, h2.resolve_right id⟩
  | rt d ρ' => exact h2.elim
  | bk ρ' => exact h2.elim
  | ct ρ' => exact h2.elim
theorem rng1 {n : Nat} : rngL 0 n = rngL ((0 : Nat) : Int) n := rfl
theorem rng2 {a b : Nat} : rngL ((a : Int) + 1) ((b : Int) - ((a : Int) + 1)).toNat = rngL ((a + 1 : Nat) : Int) (b - (a + 1)) := by
  congr 1
  omega
theorem rngOk_n {n : Nat} (h : n ≤ 1000000) : rngOk (n : Int) = true := rngOk_nat (by omega)
theorem rngOk_n1 {n : Nat} (h : n ≤ 1000000) : rngOk ((n : Int) + 1) = true := by
  have := rngOk_nat (n := n + 1) (by omega)
  rwa [show ((n + 1 : Nat) : Int) = (n : Int) + 1 by omega] at this
theorem rngOk_i {z : Int} (h : -1000000 ≤ z) (h2 : z ≤ 1000000) : rngOk z = true := by
  rw [rngOk_eq]
  simp only [Bool.and_eq_true, decide_eq_true_eq]
  omega
theorem for_rng0 {gt : GG} {f : GS} (n : Nat) (I : Nat → Env → Prop) (ρ : Env) (h : I 0 ρ)
    (st : ∀ k ρ, k < n → I k ρ → ∃ ρ1, gt ρ (nD k) = some ρ1 ∧ ∃ o, f ρ1 = some o ∧ match o with
      | .nx ρ2 => I (k + 1) ρ2
      | .ct ρ2 => I (k + 1) ρ2
      | _ => False) :
    ∃ ρ', sForL gt f ((List.range n).map nD) ρ = some (.nx ρ') ∧ I n ρ' := by
  obtain ⟨ρ', h1, h2⟩ := for_rng 0 n I ρ h fun k ρ _ hk hI => st k ρ (by omega) hI
  refine ⟨ρ', ?_, by rwa [Nat.zero_add] at h2⟩
  rw [rngL_eq] at h1
  rw [List.range_eq_range']
  exact h1
theorem for_rngX0 {gt : GG} {f : GS} (n : Nat) (I : Nat → Env → Prop) (Post : Env → Prop) (R : D → Env → Prop) (ρ : Env) (h : I 0 ρ)
    (st : ∀ k ρ, k < n → I k ρ → ∃ ρ1, gt ρ (nD k) = some ρ1 ∧ ∃ o, f ρ1 = some o ∧ match o with
      | .nx ρ2 => I (k + 1) ρ2
      | .ct ρ2 => I (k + 1) ρ2
      | .bk ρ2 => Post ρ2
      | .rt d ρ2 => R d ρ2) :
    ∃ o, sForL gt f ((List.range n).map nD) ρ = some o ∧ match o with
      | .nx ρ2 => I n ρ2 ∨ Post ρ2
      | .rt d ρ2 => R d ρ2
      | _ => False := by
  obtain ⟨o, h1, h2⟩ := for_rngX 0 n I Post R ρ h fun k ρ _ hk hI => st k ρ (by omega) hI
  rw [rngL_eq] at h1
  rw [List.range_eq_range']
  rw [Nat.zero_add] at h2
  exact ⟨o, h1, h2⟩
end DL

set_option Elab.async false
set_option linter.all false
set_option maxRecDepth 100000
set_option maxHeartbeats 2000000
namespace DL
open PySem L2
theorem bit1 (m k : Nat) : Builtin.bitAnd ((m : Int) / 2 ^ k) 1 = if m.testBit k = true then 1 else 0 := by
  have e : (m : Int) / 2 ^ k = ((m / 2 ^ k : Nat) : Int) := by simp
  rw [e, show (1 : Int) = ((1 : Nat) : Int) from rfl, and_nat, Nat.and_one_is_mod, Nat.testBit_eq_decide_div_mod_eq]
  by_cases h : m / 2 ^ k % 2 = 1
  · rw [if_pos (decide_eq_true h), h]
  · rw [if_neg (by simpa using h)]
    have : m / 2 ^ k % 2 = 0 := by omega
    rw [this]
    rfl
theorem bitm (m k : Nat) : Builtin.bitAnd (m : Int) (2 ^ k) = if m.testBit k = true then 2 ^ k else 0 := by
  have e : ((2 : Int) ^ k) = ((2 ^ k : Nat) : Int) := by simp
  rw [e, and_nat, and_bit]
  split <;> rfl
/-- the mask of the places below n that P names -/
def msk (P : Nat → Bool) : Nat → Nat
  | 0 => 0
  | n + 1 => msk P n + if P n = true then 2 ^ n else 0
theorem msk_lt {P : Nat → Bool} : ∀ n, msk P n < 2 ^ n
  | 0 => by simp [msk]
  | n + 1 => by
    have := msk_lt (P := P) n
    unfold msk
    rw [Nat.pow_succ]
    split <;> omega
theorem msk_bit {P : Nat → Bool} {i : Nat} : ∀ {n}, (msk P n).testBit i = (decide (i < n) && P i)
  | 0 => by simp [msk]
  | n + 1 => by
    have ih := msk_bit (P := P) (i := i) (n := n)
    unfold msk
    by_cases h : P n = true
    · rw [if_pos h, add_bit n _ (by rw [msk_bit]; simp), ih]
      by_cases h1 : i = n
      · subst h1
        simp [h]
      · by_cases h2 : i < n
        · simp [h2, h1, Nat.lt_succ_of_lt h2]
        · have : ¬ i < n + 1 := by omega
          simp [h2, h1, this]
    · rw [if_neg h, Nat.add_zero, ih]
      by_cases h1 : i = n
      · subst h1
        simp at h
        simp [h]
      · by_cases h2 : i < n
        · simp [h2, Nat.lt_succ_of_lt h2]
        · have : ¬ i < n + 1 := by omega
          simp [h2, this]
theorem msk_eq {P : Nat → Bool} {n m : Nat} (h : ∀ i, m.testBit i = (decide (i < n) && P i)) : m = msk P n := Nat.eq_of_testBit_eq fun i => by rw [h, msk_bit]
theorem bit_lt {m n i : Nat} (h : m < 2 ^ n) (hi : m.testBit i = true) : i < n := by
  rcases Nat.lt_or_ge i n with q | q
  · exact q
  · have := Nat.testBit_lt_two_pow (Nat.lt_of_lt_of_le h (Nat.pow_le_pow_right (by omega) q))
    rw [this] at hi
    cases hi
theorem all_bit (n i : Nat) : (2 ^ n - 1).testBit i = decide (i < n) := Nat.testBit_two_pow_sub_one n i
theorem sum_bit : ∀ {w : List Nat}, w.Nodup → ∀ i, ((w.map fun x => 2 ^ x).sum).testBit i = decide (i ∈ w)
  | [], _, i => by simp
  | x :: r, h, i => by
    obtain ⟨h1, h2⟩ := List.nodup_cons.mp h
    rw [List.map_cons, List.sum_cons, Nat.add_comm, add_bit x _ (by rw [sum_bit h2]; simpa using h1), sum_bit h2]
    by_cases e : i = x
    · subst e; simp
    · simp [e]
theorem sub_all {n : Nat} : ∀ {w : List Nat}, w.Nodup → (∀ x ∈ w, x < n) → (w.map fun x => 2 ^ x).sum ≤ 2 ^ n - 1 ∧ ∀ i, (2 ^ n - 1 - (w.map fun x => 2 ^ x).sum).testBit i = (decide (i < n) && !decide (i ∈ w))
  | [], _, _ => ⟨by simp, fun i => by simp [all_bit]⟩
  | x :: r, h, hn => by
    obtain ⟨h1, h2⟩ := List.nodup_cons.mp h
    obtain ⟨q1, q2⟩ := sub_all h2 fun y hy => hn y (List.mem_cons_of_mem _ hy)
    have hx := hn x (by simp)
    obtain ⟨s1, s2⟩ := sub_bit x (2 ^ n - 1 - (r.map fun x => 2 ^ x).sum) (by rw [q2]; simp [hx, h1])
    rw [List.map_cons, List.sum_cons]
    refine ⟨by omega, fun i => ?_⟩
    rw [show 2 ^ n - 1 - (2 ^ x + (r.map fun x => 2 ^ x).sum) = 2 ^ n - 1 - (r.map fun x => 2 ^ x).sum - 2 ^ x by omega, s1, q2]
    by_cases e : i = x
    · subst e; simp
    · simp [e]
theorem sum_cast : ∀ (w : List Nat), (w.map fun x => (2 : Int) ^ x).sum = (((w.map fun x => 2 ^ x).sum : Nat) : Int)
  | [] => rfl
  | x :: r => by
    rw [List.map_cons, List.sum_cons, List.map_cons, List.sum_cons, sum_cast r]
    simp
end DL

set_option Elab.async false
set_option linter.all false
set_option maxRecDepth 100000
set_option maxHeartbeats 2000000
/-! EV6: the newer mirrors, as rewriting; comprehensions that draw. -/
namespace DL
open PySem L2
section
variable {ρ : Env} {g ga gb gd : GE} {f h : GS} {i j : Nat}
@[simp] theorem v_goN : goN ρ = some (none, ρ) := rfl
@[simp] theorem v_goS : goS g ρ = (g ρ).bind fun p => (asI p.1).map fun i => (some i, p.2) := rfl
@[simp] theorem v_gSlice {gl gh : GO} : gSlice g gl gh ρ = (g ρ).bind fun p => (gl p.2).bind fun q => (gh q.2).bind fun r => (sliceD q.1 r.1 p.1).map fun z => (z, r.2) := rfl
@[simp] theorem v_sliceL {lo hi : Option Int} {ds : List D} : sliceD lo hi (.list ds) = some (.list (cutL ds lo hi)) := rfl
@[simp] theorem v_sliceT {lo hi : Option Int} {ds : List D} : sliceD lo hi (.tuple ds) = some (.tuple (cutL ds lo hi)) := rfl
@[simp] theorem v_gLR1 : gLR1 g ρ = (g ρ).bind fun p => (asI p.1).bind fun j => if smallR j = true then some (.list (rngL 0 j.toNat), p.2) else none := rfl
@[simp] theorem v_gLR2 : gLR2 ga gb ρ = (ga ρ).bind fun p => (gb p.2).bind fun q => (asI p.1).bind fun i => (asI q.1).bind fun j => if smallR i = true ∧ smallR j = true then some (.list (rngL i (j - i).toNat), q.2) else none := rfl
@[simp] theorem v_smallR {k : Int} : smallR k = (decide (-1000000 ≤ k) && decide (k ≤ 1000000)) := rfl
@[simp] theorem v_gRvs : gRvs i ρ = (getL i ρ).map fun ds => (.none, ρ.set i (some (.list ds.reverse))) := rfl
@[simp] theorem v_giEnum : giEnum g ρ = (g ρ).bind fun p => match p.1 with
  | .list ds => some (enumL ds, p.2)
  | _ => none := rfl
@[simp] theorem v_giZip : giZip ga gb ρ = (ga ρ).bind fun p => (gb p.2).bind fun q => match p.1, q.1 with
  | .list xs, .list ys => some (zipL xs ys, q.2)
  | .tuple xs, .tuple ys => some (zipL xs ys, q.2)
  | _, _ => none := rfl
@[simp] theorem v_gLc2 {own own1 : List Nat} {gi : GI} {gt : GG} {gc : GT} {gi1 : GI} {gt1 : GG} {gc1 : GT} {ge : GE} : gLc2 own own1 gi gt gc gi1 gt1 gc1 ge ρ = (gi ρ).bind fun p => (lc2L own own1 gt gc gi1 gt1 gc1 ge p.1 (wipeE p.2 own)).bind fun r => if r.1.length ≤ lim then some (.list r.1, backE p.2 r.2 own) else none := rfl
@[simp] theorem v_gPopAt : gPopAt i g ρ = (getL i ρ).bind fun _ => (g ρ).bind fun p => (getL i p.2).bind fun ds => (asI p.1).bind fun j =>
  if 0 ≤ j ∧ j < ds.length ∧ ds.length ≤ lim then (ds[j.toNat]?).map fun x => (x, p.2.set i (some (.list (ds.eraseIdx j.toNat)))) else none := rfl
end
theorem cut_from {α : Type} (ds : List α) (k : Nat) : cutL ds (some ((k : Nat) : Int)) none = ds.drop k := by
  unfold cutL
  have e1 : HT.sIx ds.length 0 (some ((k : Nat) : Int)) = min k ds.length := by
    simp only [HT.sIx]
    split <;> omega
  have e2 : HT.sIx ds.length ds.length none = ds.length := rfl
  rw [e1, e2]
  by_cases h : k ≤ ds.length
  · rw [Nat.min_eq_left h, List.take_of_length_le (by rw [List.length_drop]; omega)]
  · rw [Nat.min_eq_right (by omega), List.drop_eq_nil_of_le (Nat.le_refl _), List.drop_eq_nil_of_le (by omega)]
    simp
/-- a comprehension of two walks that changes nothing -/
theorem lc2_map {own own1 : List Nat} {gt : GG} {gc : GT} {gi1 : GI} {gt1 : GG} {gc1 : GT} {ge : GE} {α : Type} {φ : α → D} (v : α → List D) (ρ : Env) :
    ∀ (xs : List α), (∀ x ∈ xs, ∃ ρ1 ρ2 its, gt ρ (φ x) = some ρ1 ∧ gc ρ1 = some (true, ρ1) ∧ gi1 ρ1 = some (its, ρ1) ∧ lcL own1 gt1 gc1 ge its (wipeE ρ1 own1) = some (v x, ρ2) ∧ wipeE ρ2 own = ρ) →
      lc2L own own1 gt gc gi1 gt1 gc1 ge (xs.map φ) ρ = some (xs.flatMap v, ρ)
  | [], _ => rfl
  | x :: r, h => by
    obtain ⟨ρ1, ρ2, its, h1, h2, h3, h4, h5⟩ := h x (by simp)
    have ih := lc2_map (own := own) (own1 := own1) (gt := gt) (gc := gc) (gi1 := gi1) (gt1 := gt1) (gc1 := gc1) (ge := ge) (φ := φ) v ρ r fun y hy => h y (List.mem_cons_of_mem _ hy)
    rw [List.map_cons]
    simp only [lc2L, h1, h2, h3, h4, h5, ih, Option.bind_some, if_true, Option.map_some, List.flatMap_cons]
/-- a comprehension whose condition draws: some of the items are left -/
theorem lc_draw {own : List Nat} {gt : GG} {gc : GT} {ge : GE} {α : Type} {φ : α → D} (v : α → D) (I : Env → Prop) :
    ∀ (xs : List α) (ρ : Env), I ρ → (∀ x ∈ xs, ∀ ρ, I ρ → ∃ ρ1 b ρ2, gt ρ (φ x) = some ρ1 ∧ gc ρ1 = some (b, ρ2) ∧ (b = true → ge ρ2 = some (v x, ρ2)) ∧ I (wipeE ρ2 own)) →
      ∃ (ys : List α) (ρ' : Env), lcL own gt gc ge (xs.map φ) ρ = some (ys.map v, ρ') ∧ ys.Sublist xs ∧ I ρ'
  | [], ρ, hI, _ => ⟨[], ρ, rfl, .slnil, hI⟩
  | x :: r, ρ, hI, h => by
    obtain ⟨ρ1, b, ρ2, h1, h2, h3, h4⟩ := h x (by simp) ρ hI
    obtain ⟨ys, ρ', q1, q2, q3⟩ := lc_draw (own := own) (gt := gt) (gc := gc) (ge := ge) (φ := φ) v I r (wipeE ρ2 own) h4 fun y hy => h y (List.mem_cons_of_mem _ hy)
    rw [List.map_cons]
    cases b with
    | false =>
      refine ⟨ys, ρ', ?_, q2.cons x, q3⟩
      simp only [lcL, h1, h2, Option.bind_some, q1]
      rfl
    | true =>
      refine ⟨x :: ys, ρ', ?_, q2.cons_cons x, q3⟩
      simp only [lcL, h1, h2, Option.bind_some, h3 rfl, q1]
      rfl
/-! ### pairings as data -/
abbrev qD (P : List (Nat × Nat)) : D := .tuple (P.map pD)
theorem eqvAll_pr : ∀ (P Q : List (Nat × Nat)), PyData.eqvAll (P.map pD) (Q.map pD) = decide (P = Q)
  | [], [] => rfl
  | [], _ :: _ => rfl
  | _ :: _, [] => rfl
  | p :: P, q :: Q => by
    have e1 : PyData.eqv (pD p) (pD q) = decide (p = q) := by
      have := any_pr [p] q
      simp only [List.map_cons, List.map_nil, List.any_cons, List.any_nil, Bool.or_false, List.mem_singleton] at this
      rw [this]
      by_cases h : p = q
      · simp [h]
      · have : ¬ q = p := fun z => h z.symm
        simp [h, this]
    show (PyData.eqv (pD p) (pD q) && PyData.eqvAll (P.map pD) (Q.map pD)) = _
    rw [e1, eqvAll_pr P Q]
    by_cases h : p = q
    · subst h; simp
    · simp [h]
theorem eqv_q (P Q : List (Nat × Nat)) : PyData.eqv (qD P) (qD Q) = decide (P = Q) := eqvAll_pr P Q
theorem lay_pr (l : List (Nat × Nat)) : PyData.canLayAll0 (l.map pD) = true ∧ PyData.depthAll (l.map pD) ≤ 1 := by
  induction l with
  | nil => exact ⟨rfl, by show 0 ≤ 1; omega⟩
  | cons p r ih =>
    refine ⟨?_, ?_⟩
    · show (PyData.canLay0 (pD p) && PyData.canLayAll0 (r.map pD)) = true
      rw [ih.1]
      rfl
    · show max 1 (PyData.depthAll (r.map pD)) ≤ 1
      omega
theorem lay_q (Ls : List (List (Nat × Nat))) (tl : List D) (h1 : PyData.canLayAll0 tl = true) (h2 : PyData.depthAll tl ≤ 2) : PyData.canLayAll0 (Ls.map qD ++ tl) = true ∧ PyData.depthAll (Ls.map qD ++ tl) ≤ 2 := by
  induction Ls with
  | nil => exact ⟨h1, h2⟩
  | cons P r ih =>
    obtain ⟨a1, a2⟩ := lay_pr P
    refine ⟨?_, ?_⟩
    · show (PyData.canLayAll0 (P.map pD) && PyData.canLayAll0 (r.map qD ++ tl)) = true
      rw [ih.1, a1]
      rfl
    · show max (PyData.depthAll (P.map pD) + 1) (PyData.depthAll (r.map qD ++ tl)) ≤ 2
      have := ih.2
      omega
theorem shaped_q (Ls : List (List (Nat × Nat))) (tl : List D) (h1 : PyData.canLayAll0 tl = true) (h2 : PyData.depthAll tl ≤ 2) : SeqAt.shaped (.list (Ls.map qD ++ tl)) = true := by
  obtain ⟨a1, a2⟩ := lay_q Ls tl h1 h2
  have e : (PyData.list (Ls.map qD ++ tl)).depth ≤ 64 := by show PyData.depthAll _ + 1 ≤ 64; omega
  unfold SeqAt.shaped
  rw [decide_eq_true e]
  show (PyData.canLayAll0 _ && _) = true
  rw [a1]
  rfl
theorem any_q (Ls : List (List (Nat × Nat))) (P : List (Nat × Nat)) : ((Ls.map qD).any fun z => PyData.eqv z (qD P)) = decide (P ∈ Ls) := by
  induction Ls with
  | nil => rfl
  | cons Q r ih =>
    rw [List.map_cons, List.any_cons, ih, eqv_q]
    by_cases h : Q = P
    · subst h; simp
    · have : ¬ P = Q := fun z => h z.symm
      simp [h, this]
theorem any_qN (Ls : List (List (Nat × Nat))) : ((Ls.map qD).any fun z => PyData.eqv z .none) = false := by
  induction Ls with
  | nil => rfl
  | cons Q r ih =>
    rw [List.map_cons, List.any_cons, ih]
    rfl
/-- what is none, or a pairing -/
def oqD : Option (List (Nat × Nat)) → D
  | none => .none
  | some P => qD P
def memO (b : Bool) (Ls : List (List (Nat × Nat))) : Option (List (Nat × Nat)) → Bool
  | none => b
  | some P => decide (P ∈ Ls)
theorem in_q (neg : Bool) (Ls : List (List (Nat × Nat))) (o : Option (List (Nat × Nat))) : inD neg (oqD o) (.list (Ls.map qD)) = some (.bool (xor neg (memO false Ls o))) := by
  have hs := shaped_q Ls [] rfl (by show 0 ≤ 2; omega)
  rw [List.append_nil] at hs
  unfold inD
  show (if _ then _ else _) = _
  cases o with
  | none =>
    rw [if_pos ⟨rfl, hs⟩]
    show some (PyData.bool (xor neg _)) = _
    rw [show ((Ls.map qD).any fun z => PyData.eqv z (oqD none)) = false from any_qN Ls]
    rfl
  | some P =>
    rw [if_pos ⟨(shaped_prs P).2, hs⟩]
    show some (PyData.bool (xor neg _)) = _
    rw [show ((Ls.map qD).any fun z => PyData.eqv z (oqD (some P))) = decide (P ∈ Ls) from any_q Ls P]
    rfl
/-- in a list of pairings, with none behind them -/
theorem in_qN (neg : Bool) (Ls : List (List (Nat × Nat))) (o : Option (List (Nat × Nat))) : inD neg (oqD o) (.list (Ls.map qD ++ [.none])) = some (.bool (xor neg (memO true Ls o))) := by
  have hs := shaped_q Ls [.none] rfl (by show max 0 0 ≤ 2; omega)
  unfold inD
  show (if _ then _ else _) = _
  cases o with
  | none =>
    rw [if_pos ⟨rfl, hs⟩]
    show some (PyData.bool (xor neg _)) = _
    rw [List.any_append, show ((Ls.map qD).any fun z => PyData.eqv z (oqD none)) = false from any_qN Ls]
    rfl
  | some P =>
    rw [if_pos ⟨(shaped_prs P).2, hs⟩]
    show some (PyData.bool (xor neg _)) = _
    rw [List.any_append, show ((Ls.map qD).any fun z => PyData.eqv z (oqD (some P))) = decide (P ∈ Ls) from any_q Ls P]
    show some (PyData.bool (xor neg (_ || (false || false)))) = some (PyData.bool (xor neg (decide (P ∈ Ls))))
    simp
theorem v_eqP (P Q : List (Nat × Nat)) : eqD (.list (P.map pD)) (.list (Q.map pD)) = some (.bool (decide (P = Q))) := by
  unfold eqD
  rw [if_pos ⟨(shaped_prs P).1, (shaped_prs Q).1⟩]
  show some (PyData.bool (PyData.eqvAll _ _)) = _
  rw [eqvAll_pr]
theorem v_eqQ (Ls Ms : List (List (Nat × Nat))) (h : Ms = []) : eqD (.list (Ls.map qD)) (.list (Ms.map qD)) = some (.bool Ls.isEmpty) ∧ neD (.list (Ls.map qD)) (.list (Ms.map qD)) = some (.bool (!Ls.isEmpty)) := by
  subst h
  have hs := shaped_q Ls [] rfl (by show 0 ≤ 2; omega)
  rw [List.append_nil] at hs
  have e : PyData.eqvAll (Ls.map qD) [] = Ls.isEmpty := by cases Ls <;> rfl
  constructor
  · unfold eqD
    rw [if_pos ⟨hs, rfl⟩]
    show some (PyData.bool (PyData.eqvAll _ _)) = _
    rw [← e]
    rfl
  · unfold neD
    rw [if_pos ⟨hs, rfl⟩]
    show some (PyData.bool (!PyData.eqvAll _ _)) = _
    rw [← e]
    rfl
end DL

set_option Elab.async false
set_option linter.all false
set_option maxRecDepth 100000
set_option maxHeartbeats 2000000
/-! NU: greatest pairings, plain. -/
namespace DL
def del (S : Nat → Bool) (y : Nat) : Nat → Bool := fun i => S i && !decide (i = y)
def nu (T : Nat → Nat → Bool) : Nat → (Nat → Bool) → Nat
  | 0, _ => 0
  | t + 1, S => if S t = true then ((List.range t).filter fun y => T y t && S y).foldl (fun b y => max b (nu T t (del S y) + 1)) (nu T t S) else nu T t S
theorem foldl_max (f : Nat → Nat) : ∀ (l : List Nat) (b : Nat), b ≤ l.foldl (fun b y => max b (f y)) b ∧ (∀ y ∈ l, f y ≤ l.foldl (fun b y => max b (f y)) b) ∧ (l.foldl (fun b y => max b (f y)) b = b ∨ ∃ y ∈ l, l.foldl (fun b y => max b (f y)) b = f y)
  | [], b => ⟨Nat.le_refl _, by simp, .inl rfl⟩
  | x :: r, b => by
    obtain ⟨h1, h2, h3⟩ := foldl_max f r (max b (f x))
    rw [List.foldl_cons]
    refine ⟨by omega, fun y hy => ?_, ?_⟩
    · rcases List.mem_cons.mp hy with rfl | hy
      · omega
      · exact h2 y hy
    · rcases h3 with h3 | ⟨y, hy, h3⟩
      · rw [h3]
        rcases Nat.le_total b (f x) with q | q
        · exact .inr ⟨x, by simp, by omega⟩
        · exact .inl (by omega)
      · exact .inr ⟨y, List.mem_cons_of_mem _ hy, h3⟩
theorem max_uniq {f : Nat → Nat} {P : Nat → Prop} {b r r' : Nat} (h1 : b ≤ r ∧ (∀ y, P y → f y ≤ r) ∧ (r = b ∨ ∃ y, P y ∧ r = f y)) (h2 : b ≤ r' ∧ (∀ y, P y → f y ≤ r') ∧ (r' = b ∨ ∃ y, P y ∧ r' = f y)) : r = r' := by
  obtain ⟨a1, a2, a3⟩ := h1
  obtain ⟨b1, b2, b3⟩ := h2
  apply Nat.le_antisymm
  · rcases a3 with a3 | ⟨y, hy, a3⟩
    · omega
    · have := b2 y hy
      omega
  · rcases b3 with b3 | ⟨y, hy, b3⟩
    · omega
    · have := a2 y hy
      omega
section
variable {T : Nat → Nat → Bool}
/-- what the step says -/
theorem nu_spec {t : Nat} {S : Nat → Bool} (h : S t = true) : nu T t S ≤ nu T (t + 1) S ∧ (∀ y, (y < t ∧ T y t = true ∧ S y = true) → nu T t (del S y) + 1 ≤ nu T (t + 1) S) ∧
    (nu T (t + 1) S = nu T t S ∨ ∃ y, (y < t ∧ T y t = true ∧ S y = true) ∧ nu T (t + 1) S = nu T t (del S y) + 1) := by
  obtain ⟨h1, h2, h3⟩ := foldl_max (fun y => nu T t (del S y) + 1) ((List.range t).filter fun y => T y t && S y) (nu T t S)
  have e : nu T (t + 1) S = ((List.range t).filter fun y => T y t && S y).foldl (fun b y => max b (nu T t (del S y) + 1)) (nu T t S) := by
    rw [nu, if_pos h]
  rw [e]
  have hm : ∀ y, y ∈ (List.range t).filter (fun y => T y t && S y) ↔ (y < t ∧ T y t = true ∧ S y = true) := fun y => by simp
  refine ⟨h1, fun y hy => h2 y ((hm y).mpr hy), ?_⟩
  rcases h3 with h3 | ⟨y, hy, h3⟩
  · exact .inl h3
  · exact .inr ⟨y, (hm y).mp hy, h3⟩
theorem nu_off {t : Nat} {S : Nat → Bool} (h : S t = false) : nu T (t + 1) S = nu T t S := by
  rw [nu, if_neg (by rw [h]; exact Bool.false_ne_true)]
theorem nu_congr : ∀ {t : Nat} {S S' : Nat → Bool}, (∀ i, i < t → S i = S' i) → nu T t S = nu T t S'
  | 0, _, _, _ => rfl
  | t + 1, S, S', h => by
    have e1 : nu T t S = nu T t S' := nu_congr fun i hi => h i (by omega)
    cases hs : S t with
    | false =>
      rw [nu_off hs, nu_off (by rw [← h t (by omega)]; exact hs), e1]
    | true =>
      have hs' : S' t = true := by rw [← h t (by omega)]; exact hs
      obtain ⟨a1, a2, a3⟩ := nu_spec (T := T) hs
      obtain ⟨b1, b2, b3⟩ := nu_spec (T := T) hs'
      have hd : ∀ y, nu T t (del S y) = nu T t (del S' y) := fun y => nu_congr fun i hi => by
        unfold del
        rw [h i (by omega)]
      refine max_uniq (f := fun y => nu T t (del S y) + 1) (P := fun y => y < t ∧ T y t = true ∧ S y = true) ⟨a1, a2, a3⟩ ⟨by rw [e1]; exact b1, fun y hy => by rw [hd]; exact b2 y ⟨hy.1, hy.2.1, by rw [← h y (by omega)]; exact hy.2.2⟩, ?_⟩
      rcases b3 with b3 | ⟨y, hy, b3⟩
      · exact .inl (by rw [b3, e1])
      · exact .inr ⟨y, ⟨hy.1, hy.2.1, by rw [h y (by omega)]; exact hy.2.2⟩, by rw [b3, hd]⟩
theorem nu_mono : ∀ {t : Nat} {S S' : Nat → Bool}, (∀ i, i < t → S i = true → S' i = true) → nu T t S ≤ nu T t S'
  | 0, _, _, _ => Nat.le_refl _
  | t + 1, S, S', h => by
    have e1 : nu T t S ≤ nu T t S' := nu_mono fun i hi => h i (by omega)
    have e2 : nu T t S' ≤ nu T (t + 1) S' := by
      cases hs : S' t with
      | false => rw [nu_off hs]; exact Nat.le_refl _
      | true => exact (nu_spec hs).1
    cases hs : S t with
    | false =>
      rw [nu_off hs]
      omega
    | true =>
      have hs' := h t (by omega) hs
      obtain ⟨a1, a2, a3⟩ := nu_spec (T := T) hs
      rcases a3 with a3 | ⟨y, hy, a3⟩
      · omega
      · have := (nu_spec (T := T) hs').2.1 y ⟨hy.1, hy.2.1, h y (by omega) hy.2.2⟩
        have : nu T t (del S y) ≤ nu T t (del S' y) := nu_mono fun i hi q => by
          unfold del at q ⊢
          rw [Bool.and_eq_true] at q ⊢
          exact ⟨h i (by omega) q.1, q.2⟩
        omega
theorem del_sub {S : Nat → Bool} {y i : Nat} (h : del S y i = true) : S i = true := by
  unfold del at h
  rw [Bool.and_eq_true] at h
  exact h.1
/-- pairings: pairs x < y of places in S, tied, all ends apart -/
def ends (P : List (Nat × Nat)) : List Nat := P.flatMap fun p => [p.1, p.2]
structure Pairing (T : Nat → Nat → Bool) (t : Nat) (S : Nat → Bool) (P : List (Nat × Nat)) : Prop where
  ok : ∀ p ∈ P, p.1 < p.2 ∧ p.2 < t ∧ T p.1 p.2 = true ∧ S p.1 = true ∧ S p.2 = true
  nd : (ends P).Nodup
theorem ends_perm {P P' : List (Nat × Nat)} (h : P.Perm P') : (ends P).Perm (ends P') := h.flatMap_right _
theorem Pairing.perm {t : Nat} {S : Nat → Bool} {P P' : List (Nat × Nat)} (h : Pairing T t S P) (p : P.Perm P') : Pairing T t S P' :=
  ⟨fun q hq => h.ok q (p.mem_iff.mpr hq), (ends_perm p).nodup_iff.mp h.nd⟩
theorem mem_ends {P : List (Nat × Nat)} {i : Nat} : i ∈ ends P ↔ ∃ p ∈ P, i = p.1 ∨ i = p.2 := by
  unfold ends
  simp
/-- no pairing is greater -/
theorem nu_ge : ∀ {t : Nat} {S : Nat → Bool} {P : List (Nat × Nat)}, Pairing T t S P → P.length ≤ nu T t S
  | 0, S, P, h => by
    cases P with
    | nil => exact Nat.le_refl _
    | cons p r => exact absurd (h.ok p (by simp)).2.1 (Nat.not_lt_zero _)
  | t + 1, S, P, h => by
    by_cases hp : ∃ p ∈ P, p.2 = t
    · obtain ⟨p, hpP, rfl⟩ := hp
      obtain ⟨l1, l2, rfl⟩ := List.append_of_mem hpP
      have hperm : (l1 ++ p :: l2).Perm (p :: (l1 ++ l2)) := List.perm_middle
      have h' := h.perm hperm
      obtain ⟨k1, k2, k3, k4, k5⟩ := h'.ok p (by simp)
      have hnd : ([p.1, p.2] ++ ends (l1 ++ l2)).Nodup := h'.nd
      obtain ⟨n1, n2, n3⟩ := List.nodup_append.mp hnd
      have hrest : Pairing T p.2 (del S p.1) (l1 ++ l2) := by
        refine ⟨fun q hq => ?_, n2⟩
        obtain ⟨j1, j2, j3, j4, j5⟩ := h'.ok q (List.mem_cons_of_mem _ hq)
        have m1 : q.1 ∈ ends (l1 ++ l2) := mem_ends.mpr ⟨q, hq, .inl rfl⟩
        have m2 : q.2 ∈ ends (l1 ++ l2) := mem_ends.mpr ⟨q, hq, .inr rfl⟩
        have a1 : p.1 ≠ q.1 := n3 p.1 (by simp) q.1 m1
        have a2 : p.1 ≠ q.2 := n3 p.1 (by simp) q.2 m2
        have a3 : p.2 ≠ q.2 := n3 p.2 (by simp) q.2 m2
        refine ⟨j1, by omega, j3, ?_, ?_⟩
        · unfold del
          rw [j4, Bool.true_and, Bool.not_eq_true', decide_eq_false_iff_not]
          exact fun z => a1 z.symm
        · unfold del
          rw [j5, Bool.true_and, Bool.not_eq_true', decide_eq_false_iff_not]
          exact fun z => a2 z.symm
      have ih := nu_ge hrest
      have := (nu_spec (T := T) k5).2.1 p.1 ⟨k1, k3, k4⟩
      simp at ih ⊢
      omega
    · have hP : Pairing T t S P := ⟨fun q hq => by
        obtain ⟨j1, j2, j3⟩ := h.ok q hq
        have : q.2 ≠ t := fun z => hp ⟨q, hq, z⟩
        exact ⟨j1, by omega, j3⟩, h.nd⟩
      have ih := nu_ge hP
      have : nu T t S ≤ nu T (t + 1) S := by
        cases hs : S t with
        | false => rw [nu_off hs]; exact Nat.le_refl _
        | true => exact (nu_spec hs).1
      omega
theorem Pairing.up {t t' : Nat} {S S' : Nat → Bool} {P : List (Nat × Nat)} (h : Pairing T t S P) (ht : t ≤ t') (hS : ∀ i, S i = true → S' i = true) : Pairing T t' S' P :=
  ⟨fun q hq => by
    obtain ⟨j1, j2, j3, j4, j5⟩ := h.ok q hq
    exact ⟨j1, by omega, j3, hS _ j4, hS _ j5⟩, h.nd⟩
/-- one more pair, with the greatest place -/
theorem Pairing.add {t : Nat} {S : Nat → Bool} {P : List (Nat × Nat)} {y : Nat} (h : Pairing T t (del S y) P) (hy : y < t) (hT : T y t = true) (hSy : S y = true) (hSt : S t = true) : Pairing T (t + 1) S ((y, t) :: P) := by
  refine ⟨fun q hq => ?_, ?_⟩
  · rcases List.mem_cons.mp hq with rfl | hq
    · exact ⟨hy, by simp, hT, hSy, hSt⟩
    · obtain ⟨j1, j2, j3, j4, j5⟩ := h.ok q hq
      exact ⟨j1, by omega, j3, del_sub j4, del_sub j5⟩
  · show ([y, t] ++ ends P).Nodup
    refine List.nodup_append.mpr ⟨by simp; omega, h.nd, fun a ha b hb => ?_⟩
    obtain ⟨q, hq, hb⟩ := mem_ends.mp hb
    obtain ⟨j1, j2, j3, j4, j5⟩ := h.ok q hq
    have d1 : q.1 ≠ y := by
      unfold del at j4
      simpa using (Bool.and_eq_true_iff.mp j4).2
    have d2 : q.2 ≠ y := by
      unfold del at j5
      simpa using (Bool.and_eq_true_iff.mp j5).2
    simp at ha
    omega
theorem nu_has : ∀ (t : Nat) (S : Nat → Bool), ∃ P, Pairing T t S P ∧ P.length = nu T t S
  | 0, S => ⟨[], ⟨fun p hp => by simp at hp, List.nodup_nil⟩, rfl⟩
  | t + 1, S => by
    cases hs : S t with
    | false =>
      obtain ⟨P, h1, h2⟩ := nu_has t S
      exact ⟨P, h1.up (by omega) fun _ h => h, by rw [nu_off hs]; exact h2⟩
    | true =>
      rcases (nu_spec (T := T) hs).2.2 with e | ⟨y, ⟨k1, k2, k3⟩, e⟩
      · obtain ⟨P, h1, h2⟩ := nu_has t S
        exact ⟨P, h1.up (by omega) fun _ h => h, by rw [e]; exact h2⟩
      · obtain ⟨P, h1, h2⟩ := nu_has t (del S y)
        exact ⟨(y, t) :: P, h1.add k1 k2 k3 hs, by rw [e, List.length_cons, h2]⟩
/-! ### over masks -/
def nuM (T : Nat → Nat → Bool) (t m : Nat) : Nat := nu T t fun i => m.testBit i
theorem nuM_up {t m : Nat} (h : m < 2 ^ t) : nuM T (t + 1) m = nuM T t m := nu_off (Nat.testBit_lt_two_pow h)
theorem nuM_ups {t m : Nat} (h : m < 2 ^ t) : ∀ k, nuM T (t + k) m = nuM T t m
  | 0 => rfl
  | k + 1 => by
    rw [← Nat.add_assoc, nuM_up (Nat.lt_of_lt_of_le h (Nat.pow_le_pow_right (by omega) (by omega))), nuM_ups h k]
theorem del_bit {m y : Nat} (h : m.testBit y = true) : (fun i => (m - 2 ^ y).testBit i) = del (fun i => m.testBit i) y := funext fun i => (sub_bit y m h).1 i
theorem nuM_spec {t r : Nat} (h : r < 2 ^ t) : nuM T t r ≤ nuM T (t + 1) (r + 2 ^ t) ∧ (∀ y, (y < t ∧ T y t = true ∧ r.testBit y = true) → nuM T t (r - 2 ^ y) + 1 ≤ nuM T (t + 1) (r + 2 ^ t)) ∧
    (nuM T (t + 1) (r + 2 ^ t) = nuM T t r ∨ ∃ y, (y < t ∧ T y t = true ∧ r.testBit y = true) ∧ nuM T (t + 1) (r + 2 ^ t) = nuM T t (r - 2 ^ y) + 1) := by
  have hb := add_bit t r (Nat.testBit_lt_two_pow h)
  have hlow : ∀ i, i < t → (r + 2 ^ t).testBit i = r.testBit i := fun i hi => by
    rw [hb]
    have : ¬ i = t := by omega
    simp [this]
  have e1 : nu T t (fun i => (r + 2 ^ t).testBit i) = nuM T t r := nu_congr hlow
  have e2 : ∀ y, y < t → r.testBit y = true → nu T t (del (fun i => (r + 2 ^ t).testBit i) y) = nuM T t (r - 2 ^ y) := fun y hy hr => by
    unfold nuM
    rw [del_bit hr]
    exact nu_congr fun i hi => by
      simp only [del, hlow i hi]
  obtain ⟨a1, a2, a3⟩ := nu_spec (T := T) (t := t) (S := fun i => (r + 2 ^ t).testBit i) (by show (r + 2 ^ t).testBit t = true; rw [hb]; simp)
  refine ⟨by rw [← e1]; exact a1, fun y hy => ?_, ?_⟩
  · rw [← e2 y hy.1 hy.2.2]
    exact a2 y ⟨hy.1, hy.2.1, by rw [hlow y hy.1]; exact hy.2.2⟩
  · rcases a3 with a3 | ⟨y, ⟨k1, k2, k3⟩, a3⟩
    · exact .inl (by rw [← e1]; exact a3)
    · have k3' : r.testBit y = true := by rw [← hlow y k1]; exact k3
      exact .inr ⟨y, ⟨k1, k2, k3'⟩, by rw [← e2 y k1 k3']; exact a3⟩
theorem nuM_mono {t m m' : Nat} (h : ∀ i, i < t → m.testBit i = true → m'.testBit i = true) : nuM T t m ≤ nuM T t m' := nu_mono h
theorem nuM_sub {t m y : Nat} (h : m.testBit y = true) : nuM T t (m - 2 ^ y) ≤ nuM T t m := nuM_mono fun i _ q => by
  rw [(sub_bit y m h).1] at q
  exact (Bool.and_eq_true_iff.mp q).1
end
end DL

set_option Elab.async false
set_option linter.all false
set_option maxRecDepth 100000
set_option maxHeartbeats 4000000
namespace Lw
open PySem L2 PyProof.Rows DL
def topS (i : Nat) : Stmt := PySem.Challenge.pw_everypairing_k65_whole_game_by_all_walks.main.body.getD i (.Pass ⟨0, 0, 0, 0⟩)
structure Dn (K : Fr) (mg : Str → Option Value) (x : Str) (st : Stmt) (ps : List Str) (f : Addr) (fd : FuncData) : Prop where
  g : mg x = some (.ref f)
  F : Fun K x x st f fd
  b : Binds K fd ps []
abbrev s__law_spring : Stmt := topS 28
abbrev N__law_spring : List Str := ["_law_script", "_law_mixed", "_law_cell"]
theorem sc__law_spring : FnScope N__law_spring ["_law_script"] (defScope s__law_spring) := ⟨rfl, rfl, rfl, by decide +kernel, rfl, by decide +kernel, by decide +kernel⟩
abbrev c__law_spring : Cfg := ⟨fun i => 0, []⟩
abbrev s__law_pick : Stmt := topS 29
abbrev N__law_pick : List Str := ["_law_spring_here", "_law_many", "_law_cells", "_law_found"]
theorem sc__law_pick : FnScope N__law_pick ["_law_spring_here", "_law_many"] (defScope s__law_pick) := ⟨rfl, rfl, rfl, by decide +kernel, rfl, by decide +kernel, by decide +kernel⟩
abbrev c__law_pick : Cfg := ⟨fun i => match i with | 0 => 2 | _ => 0, [0]⟩
abbrev s__law_web : Stmt := topS 30
abbrev N__law_web : List Str := ["_law_spring_here", "_law_many", "_law_dense", "_law_ties", "_law_x", "_law_y"]
theorem sc__law_web : FnScope N__law_web ["_law_spring_here", "_law_many"] (defScope s__law_web) := ⟨rfl, rfl, rfl, by decide +kernel, rfl, by decide +kernel, by decide +kernel⟩
abbrev c__law_web : Cfg := ⟨fun i => match i with | 0 => 2 | 3 => 1 | _ => 0, [0]⟩
abbrev s_is_tuple_of : Stmt := topS 8
abbrev N_is_tuple_of : List Str := ["many", "value"]
theorem sc_is_tuple_of : FnScope N_is_tuple_of ["many", "value"] (defScope s_is_tuple_of) := ⟨rfl, rfl, rfl, by decide +kernel, rfl, by decide +kernel, by decide +kernel⟩
abbrev c_is_tuple_of : Cfg := ⟨fun i => 0, []⟩
abbrev s_is_integer : Stmt := topS 6
abbrev N_is_integer : List Str := ["value"]
theorem sc_is_integer : FnScope N_is_integer ["value"] (defScope s_is_integer) := ⟨rfl, rfl, rfl, by decide +kernel, rfl, by decide +kernel, by decide +kernel⟩
abbrev c_is_integer : Cfg := ⟨fun i => 0, []⟩
abbrev s_is_between : Stmt := topS 7
abbrev N_is_between : List Str := ["low", "value", "high"]
theorem sc_is_between : FnScope N_is_between ["low", "value", "high"] (defScope s_is_between) := ⟨rfl, rfl, rfl, by decide +kernel, rfl, by decide +kernel, by decide +kernel⟩
abbrev c_is_between : Cfg := ⟨fun i => 0, []⟩
abbrev s_is_tie_of : Stmt := topS 12
abbrev N_is_tie_of : List Str := ["many", "value", "place"]
theorem sc_is_tie_of : FnScope N_is_tie_of ["many", "value"] (defScope s_is_tie_of) := ⟨rfl, rfl, rfl, by decide +kernel, rfl, by decide +kernel, by decide +kernel⟩
abbrev c_is_tie_of : Cfg := ⟨fun i => 0, []⟩
abbrev s_is_web : Stmt := topS 13
abbrev N_is_web : List Str := ["value", "many", "ties", "k", "tie"]
theorem sc_is_web : FnScope N_is_web ["value"] (defScope s_is_web) := ⟨rfl, rfl, rfl, by decide +kernel, rfl, by decide +kernel, by decide +kernel⟩
abbrev c_is_web : Cfg := ⟨fun i => 0, []⟩
abbrev s_check_web : Stmt := topS 14
abbrev N_check_web : List Str := ["value"]
theorem sc_check_web : FnScope N_check_web ["value"] (defScope s_check_web) := ⟨rfl, rfl, rfl, by decide +kernel, rfl, by decide +kernel, by decide +kernel⟩
abbrev c_check_web : Cfg := ⟨fun i => 0, []⟩
abbrev s_neighbour_masks : Stmt := topS 15
abbrev N_neighbour_masks : List Str := ["web", "rows", "x", "y"]
theorem sc_neighbour_masks : FnScope N_neighbour_masks ["web"] (defScope s_neighbour_masks) := ⟨rfl, rfl, rfl, by decide +kernel, rfl, by decide +kernel, by decide +kernel⟩
abbrev c_neighbour_masks : Cfg := ⟨fun i => match i with | 1 => 1 | _ => 0, []⟩
abbrev s_size_table : Stmt := topS 18
abbrev N_size_table : List Str := ["web", "rows", "sizes", "top", "near", "rest", "size", "bit", "y"]
theorem sc_size_table : FnScope N_size_table ["web"] (defScope s_size_table) := ⟨rfl, rfl, rfl, by decide +kernel, rfl, by decide +kernel, by decide +kernel⟩
abbrev c_size_table : Cfg := ⟨fun i => match i with | 2 => 1 | _ => 0, []⟩
abbrev s_whole_mask : Stmt := topS 19
abbrev N_whole_mask : List Str := ["web"]
theorem sc_whole_mask : FnScope N_whole_mask ["web"] (defScope s_whole_mask) := ⟨rfl, rfl, rfl, by decide +kernel, rfl, by decide +kernel, by decide +kernel⟩
abbrev c_whole_mask : Cfg := ⟨fun i => 0, []⟩
abbrev s_winning_starts : Stmt := topS 26
abbrev N_winning_starts : List Str := ["web", "table", "whole", "place"]
theorem sc_winning_starts : FnScope N_winning_starts ["web"] (defScope s_winning_starts) := ⟨rfl, rfl, rfl, by decide +kernel, rfl, by decide +kernel, by decide +kernel⟩
abbrev c_winning_starts : Cfg := ⟨fun i => 0, []⟩
abbrev s_tie_between : Stmt := topS 16
abbrev N_tie_between : List Str := ["x", "y"]
theorem sc_tie_between : FnScope N_tie_between ["x", "y"] (defScope s_tie_between) := ⟨rfl, rfl, rfl, by decide +kernel, rfl, by decide +kernel, by decide +kernel⟩
abbrev c_tie_between : Cfg := ⟨fun i => 0, []⟩
abbrev s_is_walk : Stmt := topS 21
abbrev N_is_walk : List Str := ["web", "value", "k", "place"]
theorem sc_is_walk : FnScope N_is_walk ["web", "value"] (defScope s_is_walk) := ⟨rfl, rfl, rfl, by decide +kernel, rfl, by decide +kernel, by decide +kernel⟩
abbrev c_is_walk : Cfg := ⟨fun i => 0, []⟩
abbrev s_check_walk : Stmt := topS 22
abbrev N_check_walk : List Str := ["web", "value"]
theorem sc_check_walk : FnScope N_check_walk ["web", "value"] (defScope s_check_walk) := ⟨rfl, rfl, rfl, by decide +kernel, rfl, by decide +kernel, by decide +kernel⟩
abbrev c_check_walk : Cfg := ⟨fun i => 0, []⟩
abbrev s_mask_of : Stmt := topS 9
abbrev N_mask_of : List Str := ["places", "place"]
theorem sc_mask_of : FnScope N_mask_of ["places"] (defScope s_mask_of) := ⟨rfl, rfl, rfl, by decide +kernel, rfl, by decide +kernel, by decide +kernel⟩
abbrev c_mask_of : Cfg := ⟨fun i => 0, []⟩
abbrev s_outside : Stmt := topS 23
abbrev N_outside : List Str := ["web", "walk"]
theorem sc_outside : FnScope N_outside ["web", "walk"] (defScope s_outside) := ⟨rfl, rfl, rfl, by decide +kernel, rfl, by decide +kernel, by decide +kernel⟩
abbrev c_outside : Cfg := ⟨fun i => 0, []⟩
abbrev s_mover_wins : Stmt := topS 24
abbrev N_mover_wins : List Str := ["web", "walk", "table", "rest"]
theorem sc_mover_wins : FnScope N_mover_wins ["web", "walk"] (defScope s_mover_wins) := ⟨rfl, rfl, rfl, by decide +kernel, rfl, by decide +kernel, by decide +kernel⟩
abbrev c_mover_wins : Cfg := ⟨fun i => 0, []⟩
abbrev s_lot_by : Stmt := topS 10
abbrev N_lot_by : List Str := ["mask", "place"]
theorem sc_lot_by : FnScope N_lot_by ["mask"] (defScope s_lot_by) := ⟨rfl, rfl, rfl, by decide +kernel, rfl, by decide +kernel, by decide +kernel⟩
abbrev c_lot_by : Cfg := ⟨fun i => 0, []⟩
abbrev s_winning_moves : Stmt := topS 25
abbrev N_winning_moves : List Str := ["web", "walk", "table", "rest", "near", "place"]
theorem sc_winning_moves : FnScope N_winning_moves ["web", "walk"] (defScope s_winning_moves) := ⟨rfl, rfl, rfl, by decide +kernel, rfl, by decide +kernel, by decide +kernel⟩
abbrev c_winning_moves : Cfg := ⟨fun i => 0, []⟩
abbrev s__law_near : Stmt := topS 32
abbrev N__law_near : List Str := ["_law_web_here", "_law_place", "_law_x"]
theorem sc__law_near : FnScope N__law_near ["_law_web_here", "_law_place"] (defScope s__law_near) := ⟨rfl, rfl, rfl, by decide +kernel, rfl, by decide +kernel, by decide +kernel⟩
abbrev c__law_near : Cfg := ⟨fun i => 0, []⟩
abbrev s__law_wins : Stmt := topS 34
abbrev N__law_wins : List Str := ["_law_web_here", "_law_walk_here", "_law_known", "_law_key", "_law_free", "_law_x"]
theorem sc__law_wins : FnScope N__law_wins ["_law_web_here", "_law_walk_here", "_law_known"] (defScope s__law_wins) := ⟨rfl, rfl, rfl, by decide +kernel, rfl, by decide +kernel, by decide +kernel⟩
abbrev c__law_wins : Cfg := ⟨fun i => match i with | 2 => 1 | _ => 0, [2]⟩
abbrev s__law_moves : Stmt := topS 35
abbrev N__law_moves : List Str := ["_law_web_here", "_law_walk_here", "_law_known", "_law_free", "_law_x"]
theorem sc__law_moves : FnScope N__law_moves ["_law_web_here", "_law_walk_here", "_law_known"] (defScope s__law_moves) := ⟨rfl, rfl, rfl, by decide +kernel, rfl, by decide +kernel, by decide +kernel⟩
abbrev c__law_moves : Cfg := ⟨fun i => match i with | 2 => 1 | _ => 0, [2]⟩
abbrev s__law_walk : Stmt := topS 33
abbrev N__law_walk : List Str := ["_law_spring_here", "_law_web_here", "_law_walk_here", "_law_turn", "_law_free", "_law_x"]
theorem sc__law_walk : FnScope N__law_walk ["_law_spring_here", "_law_web_here"] (defScope s__law_walk) := ⟨rfl, rfl, rfl, by decide +kernel, rfl, by decide +kernel, by decide +kernel⟩
abbrev c__law_walk : Cfg := ⟨fun i => match i with | 0 => 2 | 2 => 1 | _ => 0, [0]⟩
abbrev s__law_is_number : Stmt := topS 31
abbrev N__law_is_number : List Str := ["_law_value"]
theorem sc__law_is_number : FnScope N__law_is_number ["_law_value"] (defScope s__law_is_number) := ⟨rfl, rfl, rfl, by decide +kernel, rfl, by decide +kernel, by decide +kernel⟩
abbrev c__law_is_number : Cfg := ⟨fun i => 0, []⟩
abbrev s_law : Stmt := topS 36
abbrev N_law : List Str := ["_law_script", "_law_spring_here", "_law_web_here", "_law_known", "_law_walks", "_law_walk_here", "_law_told", "_law_moves_here", "_law_due", "_law_starts", "_law_kept", "_law_x"]
theorem sc_law : FnScope N_law ["_law_script"] (defScope s_law) := ⟨rfl, rfl, rfl, by decide +kernel, rfl, by decide +kernel, by decide +kernel⟩
abbrev c_law : Cfg := ⟨fun i => match i with | 1 => 2 | 3 => 1 | 7 => 1 | 9 => 1 | _ => 0, []⟩
structure Txt (K : Fr) (mg : Str → Option Value) : Prop where
  d__law_spring : ∃ f fd, Dn K mg "_law_spring" s__law_spring ["_law_script"] f fd
  d__law_pick : ∃ f fd, Dn K mg "_law_pick" s__law_pick ["_law_spring_here", "_law_many"] f fd
  d__law_web : ∃ f fd, Dn K mg "_law_web" s__law_web ["_law_spring_here", "_law_many"] f fd
  d_is_tuple_of : ∃ f fd, Dn K mg "is_tuple_of" s_is_tuple_of ["many", "value"] f fd
  d_is_integer : ∃ f fd, Dn K mg "is_integer" s_is_integer ["value"] f fd
  d_is_between : ∃ f fd, Dn K mg "is_between" s_is_between ["low", "value", "high"] f fd
  d_is_tie_of : ∃ f fd, Dn K mg "is_tie_of" s_is_tie_of ["many", "value"] f fd
  d_is_web : ∃ f fd, Dn K mg "is_web" s_is_web ["value"] f fd
  d_check_web : ∃ f fd, Dn K mg "check_web" s_check_web ["value"] f fd
  d_neighbour_masks : ∃ f fd, Dn K mg "neighbour_masks" s_neighbour_masks ["web"] f fd
  d_size_table : ∃ f fd, Dn K mg "size_table" s_size_table ["web"] f fd
  d_whole_mask : ∃ f fd, Dn K mg "whole_mask" s_whole_mask ["web"] f fd
  d_winning_starts : ∃ f fd, Dn K mg "winning_starts" s_winning_starts ["web"] f fd
  d_tie_between : ∃ f fd, Dn K mg "tie_between" s_tie_between ["x", "y"] f fd
  d_is_walk : ∃ f fd, Dn K mg "is_walk" s_is_walk ["web", "value"] f fd
  d_check_walk : ∃ f fd, Dn K mg "check_walk" s_check_walk ["web", "value"] f fd
  d_mask_of : ∃ f fd, Dn K mg "mask_of" s_mask_of ["places"] f fd
  d_outside : ∃ f fd, Dn K mg "outside" s_outside ["web", "walk"] f fd
  d_mover_wins : ∃ f fd, Dn K mg "mover_wins" s_mover_wins ["web", "walk"] f fd
  d_lot_by : ∃ f fd, Dn K mg "lot_by" s_lot_by ["mask"] f fd
  d_winning_moves : ∃ f fd, Dn K mg "winning_moves" s_winning_moves ["web", "walk"] f fd
  d__law_near : ∃ f fd, Dn K mg "_law_near" s__law_near ["_law_web_here", "_law_place"] f fd
  d__law_wins : ∃ f fd, Dn K mg "_law_wins" s__law_wins ["_law_web_here", "_law_walk_here", "_law_known"] f fd
  d__law_moves : ∃ f fd, Dn K mg "_law_moves" s__law_moves ["_law_web_here", "_law_walk_here", "_law_known"] f fd
  d__law_walk : ∃ f fd, Dn K mg "_law_walk" s__law_walk ["_law_spring_here", "_law_web_here"] f fd
  d__law_is_number : ∃ f fd, Dn K mg "_law_is_number" s__law_is_number ["_law_value"] f fd
  d_law : ∃ f fd, Dn K mg "law" s_law ["_law_script"] f fd
  n_abs : mg "abs" = none
  n_all : mg "all" = none
  n_bool : mg "bool" = none
  n_int : mg "int" = none
  n_isinstance : mg "isinstance" = none
  n_len : mg "len" = none
  n_list : mg "list" = none
  n_max : mg "max" = none
  n_min : mg "min" = none
  n_range : mg "range" = none
  n_set : mg "set" = none
  n_sorted : mg "sorted" = none
  n_sum : mg "sum" = none
  n_tuple : mg "tuple" = none
  k_MOST_PLACES : ∃ t, mg "MOST_PLACES" = some (.int 12 t)
theorem u0 {k : Nat} {A : Around} (h : Room k A) : A.units < cLine := by have := h.un; omega
theorem u4 {k : Nat} {A : Around} (h : Room k A) : A.units + 64 < cLine := by have := h.un; omega
theorem u5 {k : Nat} {A : Around} (h : Room k A) : A.units + 65 < cLine := by have := h.un; omega
section
variable {P : Program} {w : World} {K : Fr} {mg : Str → Option Value} {base : Heap}
noncomputable def gf__law_spring : GS := (sSeq (sSet 1 (gC (.int 11))) (sSeq (sFor (giS (gVar 0)) (ggName 2) (sSet 1 (gBin modD (gUn intD (gBin addD (gBin addD (gBin mulI (gVar 1) (gC (.int 37))) (gBin mulI (gVar 2) (gC (.int 3935559000370003845)))) (gC (.int 2691343689449507681)))) (gBin powD (gC (.int 2)) (gC (.int 64)))))) (sRet (gLst3 (gC (.int 0)) (gUn revD (gUn listD (gVar 0))) (gVar 1)))))
noncomputable def m__law_spring : List D → Option (D × List D) := runFn c__law_spring.ino N__law_spring.length gf__law_spring
theorem ok__law_spring (T : Txt K mg) {f : Addr} {fd : FuncData} (D0 : Dn K mg "_law_spring" s__law_spring ["_law_script"] f fd) : FnOk P w K mg base CX0 2 f fd ["_law_script"] (spD K c__law_spring 1 2 m__law_spring) := by
  exact dl_fn D0.F sc__law_spring (by decide) (by decide) (by decide) (fun cdv A outer s H E hr => (dss_cons (ds_set (i := 1) de_int sc__law_spring.nd) (dss_cons (ds_for PassesOwn.never rfl (di_seq (de_im (pv 0))) (dg_name (i := 2) sc__law_spring.nd) (dss_one (ds_set (i := 1) (de_bin od_mod (de_callT cd_int (de_frz (de_bin od_add (de_bin od_add (de_bin od_mulI (de_im (pv 1)) de_int) (de_bin od_mulI (de_im (pv 2)) de_int)) de_int) (nd_bin nd_addD)) T.n_int) (de_bin od_pow de_int de_int)) sc__law_spring.nd))) (dss_one (ds_ret (de_lst3 (m := 1) de_int (de_rev (de_callT cd_list (de_im (pv 0)) T.n_list)) (de_im (pv 1))))))))
noncomputable def gf__law_pick : GS := (sSeq (sIf (gAnd (gT (gBin eqD (gBin ixLD (gVar 0) (gC (.int 0))) (gC (.int 0)))) (gT (gBin neD (gBin ixLD (gVar 0) (gC (.int 1))) (gLst gNil)))) (sSeq (sAliasPop 0 2) (sSeq (sSet 3 (gBin modD (gUn intD (gFlat (gBin ixLD (gVar 0) (gC (.int 0))))) (gVar 1))) (sSeq (sSetIx2 0 (gC (.int 0)) (gBin divD (gFlat (gBin ixLD (gVar 0) (gC (.int 0)))) (gVar 1))) (sRet (gVar 3))))) sNil) (sSeq (sIf (gT (gBin gtD (gFlat (gBin ixLD (gVar 0) (gC (.int 0)))) (gC (.int 0)))) (sSeq (sSet 3 (gBin modD (gUn intD (gFlat (gBin ixLD (gVar 0) (gC (.int 0))))) (gVar 1))) (sSeq (sSetIx2 0 (gC (.int 0)) (gBin divD (gFlat (gBin ixLD (gVar 0) (gC (.int 0)))) (gVar 1))) (sRet (gVar 3)))) sNil) (sSeq (sSetIx2 0 (gC (.int 2)) (gBin modD (gUn intD (gBin addD (gBin mulI (gFlat (gBin ixLD (gVar 0) (gC (.int 2)))) (gC (.int 2862933555777941757))) (gC (.int 3037000493)))) (gBin powD (gC (.int 2)) (gC (.int 64))))) (sRet (gBin modD (gUn intD (gBin divD (gFlat (gBin ixLD (gVar 0) (gC (.int 2)))) (gBin powD (gC (.int 2)) (gC (.int 31))))) (gVar 1))))))
noncomputable def m__law_pick : List D → Option (D × List D) := runFn c__law_pick.ino N__law_pick.length gf__law_pick
theorem ok__law_pick (T : Txt K mg) {f : Addr} {fd : FuncData} (D0 : Dn K mg "_law_pick" s__law_pick ["_law_spring_here", "_law_many"] f fd) : FnOk P w K mg base CX0 2 f fd ["_law_spring_here", "_law_many"] (spD K c__law_pick 2 0 m__law_pick) := by
  exact dl_fn D0.F sc__law_pick (by decide) (by decide) (by decide) (fun cdv A outer s H E hr => (dss_cons (ds_if (dt_w (dw_and (dt_cmp (od_eq (u4 hr)) (de_ixN (n := 1) (de_bor (pv 0)) de_int) de_int) (dw_and1 (dt_cmp (od_ne (u4 hr)) (de_ixN (n := 1) (de_bor (pv 0)) de_int) (de_lst da_nil))))) (dss_aliasPop (i := 0) (j := 2) (pv 0) (pv 0) (pv 2) (dss_cons (ds_set (i := 3) (de_bin od_mod (de_callT cd_int (de_flat (de_ixN (n := 1) (de_bor (pv 0)) de_int)) T.n_int) (de_im (pv 1))) sc__law_pick.nd) (dss_cons (ds_setIx2 (pv 0) de_int (de_bin od_div (de_flat (de_ixN (n := 1) (de_bor (pv 0)) de_int)) (de_im (pv 1)))) (dss_one (ds_ret (de_im (pv 3)))))) sc__law_pick.nd T.n_abs T.n_int) dss_nil) (dss_cons (ds_if (dt_cmp od_gt (de_flat (de_ixN (n := 1) (de_bor (pv 0)) de_int)) de_int) (dss_cons (ds_set (i := 3) (de_bin od_mod (de_callT cd_int (de_flat (de_ixN (n := 1) (de_bor (pv 0)) de_int)) T.n_int) (de_im (pv 1))) sc__law_pick.nd) (dss_cons (ds_setIx2 (pv 0) de_int (de_bin od_div (de_flat (de_ixN (n := 1) (de_bor (pv 0)) de_int)) (de_im (pv 1)))) (dss_one (ds_ret (de_im (pv 3)))))) dss_nil) (dss_cons (ds_setIx2 (pv 0) de_int (de_bin od_mod (de_callT cd_int (de_frz (de_bin od_add (de_bin od_mulI (de_flat (de_ixN (n := 1) (de_bor (pv 0)) de_int)) de_int) de_int) (nd_bin nd_addD)) T.n_int) (de_bin od_pow de_int de_int))) (dss_one (ds_ret (de_bin od_mod (de_callT cd_int (de_bin od_div (de_flat (de_ixN (n := 1) (de_bor (pv 0)) de_int)) (de_bin od_pow de_int de_int)) T.n_int) (de_im (pv 1)))))))))
noncomputable def gf__law_web : GS := (sSeq (sSet 2 (gBin addD (gC (.int 1)) (gCall [some 0, none] m__law_pick (gConsB 0 (gCons (gC (.int 5)) gNil))))) (sSeq (sSet 3 (gLst gNil)) (sSeq (sFor (giR1 (gVar 1)) (ggName 4) (sFor (giR2 (gBin addD (gVar 4) (gC (.int 1))) (gVar 1)) (ggName 5) (sIf (gT (gBin ltD (gCall [some 0, none] m__law_pick (gConsB 0 (gCons (gC (.int 6)) gNil))) (gVar 2))) (sExpr (gApp 3 (gTup (gCons (gVar 4) (gCons (gVar 5) gNil))))) sNil))) (sRet (gTup (gCons (gVar 1) (gCons (gUn tupleD (gVar 3)) gNil)))))))
noncomputable def m__law_web : List D → Option (D × List D) := runFn c__law_web.ino N__law_web.length gf__law_web
theorem ok__law_web (T : Txt K mg) {f : Addr} {fd : FuncData} (D0 : Dn K mg "_law_web" s__law_web ["_law_spring_here", "_law_many"] f fd) : FnOk P w K mg base CX0 3 f fd ["_law_spring_here", "_law_many"] (spD K c__law_web 2 0 m__law_web) := by
  obtain ⟨f__law_pick, fd__law_pick, D__law_pick⟩ := T.d__law_pick
  exact dl_fn D0.F sc__law_web (by decide) (by decide) (by decide) (fun cdv A outer s H E hr => (dss_cons (ds_set (i := 2) (de_frz (de_bin od_add de_int (de_call (ok__law_pick T D__law_pick) (hr.mono (by decide)) D__law_pick.g D__law_pick.F.kp D__law_pick.b (da_bor (pv 0) (da_cons de_int da_nil)))) (nd_bin nd_addD)) sc__law_web.nd) (dss_cons (ds_set (i := 3) (de_lst da_nil) sc__law_web.nd) (dss_cons (ds_for PassesOwn.never rfl (di_rng1 (de_im (pv 1)) T.n_range) (dg_name (i := 4) sc__law_web.nd) (dss_one (ds_for PassesOwn.never rfl (di_rng2 (de_frz (de_bin od_add (de_im (pv 4)) de_int) (nd_bin nd_addD)) (de_im (pv 1)) T.n_range) (dg_name (i := 5) sc__law_web.nd) (dss_one (ds_if (dt_cmp (od_lt (u0 hr)) (de_call (ok__law_pick T D__law_pick) (hr.mono (by decide)) D__law_pick.g D__law_pick.F.kp D__law_pick.b (da_bor (pv 0) (da_cons de_int da_nil))) (de_im (pv 2))) (dss_one (ds_expr (de_app (pv 3) (de_tup (da_cons (de_im (pv 4)) (da_cons (de_im (pv 5)) da_nil)))))) dss_nil))))) (dss_one (ds_ret (de_tup (da_cons (de_im (pv 1)) (da_cons (de_callT cd_tuple (de_bor (pv 3)) T.n_tuple) da_nil)))))))))
noncomputable def gf_is_tuple_of : GS := (sRet (gAndV (gUn (isiD "tuple") (gVar 1)) (gBin eqD (gUn lenD (gVar 1)) (gVar 0))))
noncomputable def m_is_tuple_of : List D → Option (D × List D) := runFn c_is_tuple_of.ino N_is_tuple_of.length gf_is_tuple_of
theorem ok_is_tuple_of (T : Txt K mg) {f : Addr} {fd : FuncData} (D0 : Dn K mg "is_tuple_of" s_is_tuple_of ["many", "value"] f fd) : FnOk P w K mg base CX0 2 f fd ["many", "value"] (spD K c_is_tuple_of 2 0 m_is_tuple_of) := by
  exact dl_fn D0.F sc_is_tuple_of (by decide) (by decide) (by decide) (fun cdv A outer s H E hr => (dss_one (ds_ret (de_andV (de_isi (Ty := "tuple") (by decide +kernel) (de_im (pv 1)) T.n_isinstance T.n_tuple) (de_one (de_cmp (od_eq (u4 hr)) (de_callB (cd_len (n := 0)) (de_im (pv 1)) T.n_len) (de_im (pv 0))))))))
noncomputable def gf_is_integer : GS := (sRet (gAndV (gUn (isiD "int") (gVar 0)) (gNotV (gUn (isiD "bool") (gVar 0)))))
noncomputable def m_is_integer : List D → Option (D × List D) := runFn c_is_integer.ino N_is_integer.length gf_is_integer
theorem ok_is_integer (T : Txt K mg) {f : Addr} {fd : FuncData} (D0 : Dn K mg "is_integer" s_is_integer ["value"] f fd) : FnOk P w K mg base CX0 2 f fd ["value"] (spD K c_is_integer 1 0 m_is_integer) := by
  exact dl_fn D0.F sc_is_integer (by decide) (by decide) (by decide) (fun cdv A outer s H E hr => (dss_one (ds_ret (de_andV (de_isi (Ty := "int") (by decide +kernel) (de_im (pv 0)) T.n_isinstance T.n_int) (de_one (de_notV (de_isi (Ty := "bool") (by decide +kernel) (de_im (pv 0)) T.n_isinstance T.n_bool)))))))
noncomputable def gf_is_between : GS := (sRet (gAndV (gCall [none] m_is_integer (gCons (gVar 1) gNil)) (gChain leD leD (gVar 0) (gVar 1) (gVar 2))))
noncomputable def m_is_between : List D → Option (D × List D) := runFn c_is_between.ino N_is_between.length gf_is_between
theorem ok_is_between (T : Txt K mg) {f : Addr} {fd : FuncData} (D0 : Dn K mg "is_between" s_is_between ["low", "value", "high"] f fd) : FnOk P w K mg base CX0 3 f fd ["low", "value", "high"] (spD K c_is_between 3 0 m_is_between) := by
  obtain ⟨f_is_integer, fd_is_integer, D_is_integer⟩ := T.d_is_integer
  exact dl_fn D0.F sc_is_between (by decide) (by decide) (by decide) (fun cdv A outer s H E hr => (dss_one (ds_ret (de_andV (de_call (ok_is_integer T D_is_integer) (hr.mono (by decide)) D_is_integer.g D_is_integer.F.kp D_is_integer.b (da_cons (de_im (pv 1)) da_nil)) (de_one (de_chain od_le od_le (de_im (pv 0)) (de_im (pv 1)) (de_im (pv 2))))))))
noncomputable def gf_is_tie_of : GS := (sSeq (sIf (gOr (gNot (gTru (gCall [none, none] m_is_tuple_of (gCons (gC (.int 2)) (gCons (gVar 1) gNil))))) (gNot (gTru (gUn allD (gLc [2] (giS (gVar 1)) (ggName 2) gcYes (gCall [none, none, none] m_is_between (gCons (gC (.int 0)) (gCons (gVar 2) (gCons (gBin subD (gVar 0) (gC (.int 1))) gNil))))))))) (sRet (gC (.bool false))) sNil) (sRet (gBin ltD (gBin ixD (gVar 1) (gC (.int 0))) (gBin ixD (gVar 1) (gC (.int 1))))))
noncomputable def m_is_tie_of : List D → Option (D × List D) := runFn c_is_tie_of.ino N_is_tie_of.length gf_is_tie_of
theorem ok_is_tie_of (T : Txt K mg) {f : Addr} {fd : FuncData} (D0 : Dn K mg "is_tie_of" s_is_tie_of ["many", "value"] f fd) : FnOk P w K mg base CX0 4 f fd ["many", "value"] (spD K c_is_tie_of 2 0 m_is_tie_of) := by
  obtain ⟨f_is_tuple_of, fd_is_tuple_of, D_is_tuple_of⟩ := T.d_is_tuple_of
  obtain ⟨f_is_between, fd_is_between, D_is_between⟩ := T.d_is_between
  exact dl_fn D0.F sc_is_tie_of (by decide) (by decide) (by decide) (fun cdv A outer s H E hr => (dss_cons (ds_if (dt_w (dw_or (dt_not (dt_tru (de_call (ok_is_tuple_of T D_is_tuple_of) (hr.mono (by decide)) D_is_tuple_of.g D_is_tuple_of.F.kp D_is_tuple_of.b (da_cons de_int (da_cons (de_im (pv 1)) da_nil))))) (dw_or1 (dt_not (dt_tru (de_callB (cd_all rfl) (de_lc (own := [("place", 2)]) rfl sc_is_tie_of.nd (di_seq (de_im (pv 1))) (blkOk_by (own := [("place", 2)]) (N := N_is_tie_of) (sc := defScope s_is_tie_of) (by decide +kernel)) (fun _ _ _ _ _ => (dg_name (i := 2) sc_is_tie_of.nd)) (fun _ _ _ _ _ => dts_nil) (fun _ _ _ _ _ => (de_call (ok_is_between T D_is_between) (hr.mono (by decide)) D_is_between.g D_is_between.F.kp D_is_between.b (da_cons de_int (da_cons (de_im (pv 2)) (da_cons (de_bin od_sub (de_im (pv 0)) de_int) da_nil)))))) T.n_all)))))) (dss_one (ds_ret de_bl)) dss_nil) (dss_one (ds_ret (de_cmp (od_lt (u0 hr)) (de_ix (de_im (pv 1)) de_int) (de_ix (de_im (pv 1)) de_int))))))
noncomputable def gf_is_web : GS := (sSeq (sIf (gOr (gNot (gTru (gCall [none, none] m_is_tuple_of (gCons (gC (.int 2)) (gCons (gVar 0) gNil))))) (gOr (gNot (gTru (gCall [none, none, none] m_is_between (gCons (gC (.int 1)) (gCons (gBin ixD (gVar 0) (gC (.int 0))) (gCons (gC (.int 12)) gNil)))))) (gNot (gTru (gUn (isiD "tuple") (gBin ixD (gVar 0) (gC (.int 1)))))))) (sRet (gC (.bool false))) sNil) (sSeq (sAsg (ggTup 2 (ggCons (ggName 1) (ggCons (ggName 2) (fun ρ ds => if ds.isEmpty then some ρ else none)))) (gVar 0)) (sSeq (sIf (gNot (gTru (gUn allD (gLc [4] (giS (gVar 2)) (ggName 4) gcYes (gCall [none, none] m_is_tie_of (gCons (gVar 1) (gCons (gVar 4) gNil))))))) (sRet (gC (.bool false))) sNil) (sRet (gUn allD (gLc [3] (giR1 (gBin subD (gUn lenD (gVar 2)) (gC (.int 1)))) (ggName 3) gcYes (gBin ltD (gBin ixD (gVar 2) (gVar 3)) (gBin ixD (gVar 2) (gBin addD (gVar 3) (gC (.int 1)))))))))))
noncomputable def m_is_web : List D → Option (D × List D) := runFn c_is_web.ino N_is_web.length gf_is_web
theorem ok_is_web (T : Txt K mg) {f : Addr} {fd : FuncData} (D0 : Dn K mg "is_web" s_is_web ["value"] f fd) : FnOk P w K mg base CX0 5 f fd ["value"] (spD K c_is_web 1 0 m_is_web) := by
  obtain ⟨f_is_tuple_of, fd_is_tuple_of, D_is_tuple_of⟩ := T.d_is_tuple_of
  obtain ⟨f_is_between, fd_is_between, D_is_between⟩ := T.d_is_between
  obtain ⟨f_is_tie_of, fd_is_tie_of, D_is_tie_of⟩ := T.d_is_tie_of
  exact dl_fn D0.F sc_is_web (by decide) (by decide) (by decide) (fun cdv A outer s H E hr => (dss_cons (ds_if (dt_w (dw_or (dt_not (dt_tru (de_call (ok_is_tuple_of T D_is_tuple_of) (hr.mono (by decide)) D_is_tuple_of.g D_is_tuple_of.F.kp D_is_tuple_of.b (da_cons de_int (da_cons (de_im (pv 0)) da_nil))))) (dw_or (dt_not (dt_tru (de_call (ok_is_between T D_is_between) (hr.mono (by decide)) D_is_between.g D_is_between.F.kp D_is_between.b (da_cons de_int (da_cons (de_ix (de_im (pv 0)) de_int) (da_cons (de_globI T.k_MOST_PLACES.choose_spec) da_nil)))))) (dw_or1 (dt_not (dt_tru (de_isi (Ty := "tuple") (by decide +kernel) (de_ix (de_im (pv 0)) de_int) T.n_isinstance T.n_tuple))))))) (dss_one (ds_ret de_bl)) dss_nil) (dss_cons (ds_asg (de_im (pv 0)) (dg_tup rfl (dgs_cons (dg_name (i := 1) sc_is_web.nd) (dgs_cons (dg_name (i := 2) sc_is_web.nd) dgs_nil)))) (dss_cons (ds_if (dt_not (dt_tru (de_callB (cd_all rfl) (de_lc (own := [("tie", 4)]) rfl sc_is_web.nd (di_seq (de_im (pv 2))) (blkOk_by (own := [("tie", 4)]) (N := N_is_web) (sc := defScope s_is_web) (by decide +kernel)) (fun _ _ _ _ _ => (dg_name (i := 4) sc_is_web.nd)) (fun _ _ _ _ _ => dts_nil) (fun _ _ _ _ _ => (de_call (ok_is_tie_of T D_is_tie_of) (hr.mono (by decide)) D_is_tie_of.g D_is_tie_of.F.kp D_is_tie_of.b (da_cons (de_im (pv 1)) (da_cons (de_im (pv 4)) da_nil))))) T.n_all))) (dss_one (ds_ret de_bl)) dss_nil) (dss_one (ds_ret (de_callB (cd_all rfl) (de_lc (own := [("k", 3)]) rfl sc_is_web.nd (di_rng1 (de_bin od_sub (de_callB (cd_len (n := 0)) (de_im (pv 2)) T.n_len) de_int) T.n_range) (blkOk_by (own := [("k", 3)]) (N := N_is_web) (sc := defScope s_is_web) (by decide +kernel)) (fun _ _ _ _ _ => (dg_name (i := 3) sc_is_web.nd)) (fun _ _ _ _ _ => dts_nil) (fun _ _ _ _ _ => (de_cmp (od_lt (u0 hr)) (de_ix (de_im (pv 2)) (de_im (pv 3))) (de_ix (de_im (pv 2)) (de_frz (de_bin od_add (de_im (pv 3)) de_int) (nd_bin nd_addD)))))) T.n_all)))))))
noncomputable def gf_check_web : GS := (sIf (gNot (gTru (gCall [none] m_is_web (gCons (gVar 0) gNil)))) sBad sNil)
noncomputable def m_check_web : List D → Option (D × List D) := runFn c_check_web.ino N_check_web.length gf_check_web
theorem ok_check_web (T : Txt K mg) {f : Addr} {fd : FuncData} (D0 : Dn K mg "check_web" s_check_web ["value"] f fd) : FnOk P w K mg base CX0 6 f fd ["value"] (spD K c_check_web 1 0 m_check_web) := by
  obtain ⟨f_is_web, fd_is_web, D_is_web⟩ := T.d_is_web
  exact dl_fn D0.F sc_check_web (by decide) (by decide) (by decide) (fun cdv A outer s H E hr => (dss_one (ds_if (dt_not (dt_tru (de_call (ok_is_web T D_is_web) (hr.mono (by decide)) D_is_web.g D_is_web.F.kp D_is_web.b (da_cons (de_im (pv 0)) da_nil)))) (dss_one ds_bad) dss_nil)))
noncomputable def gf_neighbour_masks : GS := (sSeq (sSet 1 (gRep (gCons (gC (.int 0)) gNil) (gBin ixD (gVar 0) (gC (.int 0))))) (sSeq (sFor (giS (gBin ixD (gVar 0) (gC (.int 1)))) (ggTup 2 (ggCons (ggName 2) (ggCons (ggName 3) (fun ρ ds => if ds.isEmpty then some ρ else none)))) (sSeq (sAugIx 1 (gVar 2) (gBin shlD (gC (.int 1)) (gVar 3)) orD) (sAugIx 1 (gVar 3) (gBin shlD (gC (.int 1)) (gVar 2)) orD))) (sRet (gMove 1))))
noncomputable def m_neighbour_masks : List D → Option (D × List D) := runFn c_neighbour_masks.ino N_neighbour_masks.length gf_neighbour_masks
theorem ok_neighbour_masks (T : Txt K mg) {f : Addr} {fd : FuncData} (D0 : Dn K mg "neighbour_masks" s_neighbour_masks ["web"] f fd) : FnOk P w K mg base CX0 2 f fd ["web"] (spD K c_neighbour_masks 1 0 m_neighbour_masks) := by
  exact dl_fn D0.F sc_neighbour_masks (by decide) (by decide) (by decide) (fun cdv A outer s H E hr => (dss_cons (ds_set (i := 1) (de_rep (da_cons de_int da_nil) (de_ix (de_im (pv 0)) de_int)) sc_neighbour_masks.nd) (dss_cons (ds_for PassesOwn.never rfl (di_seq (de_ix (de_im (pv 0)) de_int)) (dg_tup rfl (dgs_cons (dg_name (i := 2) sc_neighbour_masks.nd) (dgs_cons (dg_name (i := 3) sc_neighbour_masks.nd) dgs_nil))) (dss_cons (ds_augIx oi_or (pv 1) (de_im (pv 2)) (de_bin od_shl de_int (de_im (pv 3)))) (dss_one (ds_augIx oi_or (pv 1) (de_im (pv 3)) (de_bin od_shl de_int (de_im (pv 2))))))) (dss_one (ds_ret (de_frz (de_move (pv 1)) nd_move))))))
noncomputable def gf_size_table : GS := (sSeq (sSet 1 (gCall [none] m_neighbour_masks (gCons (gVar 0) gNil))) (sSeq (sSet 2 (gLst (gCons (gC (.int 0)) gNil))) (sSeq (sFor (giR1 (gBin ixD (gVar 0) (gC (.int 0)))) (ggName 3) (sSeq (sSet 4 (gLc [8] (giR1 (gVar 3)) (ggName 8) (gTru (gBin andD (gBin shrD (gBin ixD (gVar 1) (gVar 3)) (gVar 8)) (gC (.int 1)))) (gBin shlD (gC (.int 1)) (gVar 8)))) (sFor (giR1 (gBin shlD (gC (.int 1)) (gVar 3))) (ggName 5) (sSeq (sSet 6 (gBin ixD (gVar 2) (gVar 5))) (sSeq (sFor (giS (gVar 4)) (ggName 7) (sIf (gAnd (gTru (gBin andD (gVar 5) (gVar 7))) (gT (gBin eqD (gBin ixD (gVar 2) (gBin xorD (gVar 5) (gVar 7))) (gVar 6)))) (sSeq (sAug 6 (iD fun i j => i + j) (gC (.int 1))) sBrk) sNil)) (sExpr (gApp 2 (gVar 6)))))))) (sRet (gMove 2)))))
noncomputable def m_size_table : List D → Option (D × List D) := runFn c_size_table.ino N_size_table.length gf_size_table
theorem ok_size_table (T : Txt K mg) {f : Addr} {fd : FuncData} (D0 : Dn K mg "size_table" s_size_table ["web"] f fd) : FnOk P w K mg base CX0 3 f fd ["web"] (spD K c_size_table 1 0 m_size_table) := by
  obtain ⟨f_neighbour_masks, fd_neighbour_masks, D_neighbour_masks⟩ := T.d_neighbour_masks
  exact dl_fn D0.F sc_size_table (by decide) (by decide) (by decide) (fun cdv A outer s H E hr => (dss_cons (ds_set (i := 1) (de_call (ok_neighbour_masks T D_neighbour_masks) (hr.mono (by decide)) D_neighbour_masks.g D_neighbour_masks.F.kp D_neighbour_masks.b (da_cons (de_im (pv 0)) da_nil)) sc_size_table.nd) (dss_cons (ds_set (i := 2) (de_lst (da_cons de_int da_nil)) sc_size_table.nd) (dss_cons (ds_for PassesOwn.never rfl (di_rng1 (de_ix (de_im (pv 0)) de_int) T.n_range) (dg_name (i := 3) sc_size_table.nd) (dss_cons (ds_setLc0 (i := 4) (own := [("y", 8)]) rfl sc_size_table.nd (di_rng1 (de_im (pv 3)) T.n_range) (blkOk_by (own := [("y", 8)]) (N := N_size_table) (sc := defScope s_size_table) (by decide +kernel)) (fun _ _ _ _ _ => (dg_name (i := 8) sc_size_table.nd)) (fun _ _ _ _ _ => (dts_one (dt_tru (de_bin od_and (de_bin od_shr (de_ix (de_im (pv 1)) (de_im (pv 3))) (de_im (pv 8))) de_int)))) (fun _ _ _ _ _ => (de_bin od_shl de_int (de_im (pv 8)))) (sw_true rfl rfl rfl (by decide +kernel))) (dss_one (ds_for PassesOwn.never rfl (di_rng1 (de_bin od_shl de_int (de_im (pv 3))) T.n_range) (dg_name (i := 5) sc_size_table.nd) (dss_cons (ds_set (i := 6) (de_ix (de_bor (pv 2)) (de_im (pv 5))) sc_size_table.nd) (dss_cons (ds_for PassesOwn.never rfl (di_seq (de_im (pv 4))) (dg_name (i := 7) sc_size_table.nd) (dss_one (ds_if (dt_w (dw_and (dt_tru (de_bin od_and (de_im (pv 5)) (de_im (pv 7)))) (dw_and1 (dt_cmp (od_eq (u4 hr)) (de_ix (de_bor (pv 2)) (de_bin od_xor (de_im (pv 5)) (de_im (pv 7)))) (de_im (pv 6)))))) (dss_cons (ds_aug (i := 6) oi_add de_int sc_size_table.nd) (dss_one ds_brk)) dss_nil))) (dss_one (ds_expr (de_app (pv 2) (de_im (pv 6))))))))))) (dss_one (ds_ret (de_frz (de_move (pv 2)) nd_move)))))))
noncomputable def gf_whole_mask : GS := (sRet (gBin subD (gBin shlD (gC (.int 1)) (gBin ixD (gVar 0) (gC (.int 0)))) (gC (.int 1))))
noncomputable def m_whole_mask : List D → Option (D × List D) := runFn c_whole_mask.ino N_whole_mask.length gf_whole_mask
theorem ok_whole_mask (T : Txt K mg) {f : Addr} {fd : FuncData} (D0 : Dn K mg "whole_mask" s_whole_mask ["web"] f fd) : FnOk P w K mg base CX0 2 f fd ["web"] (spD K c_whole_mask 1 0 m_whole_mask) := by
  exact dl_fn D0.F sc_whole_mask (by decide) (by decide) (by decide) (fun cdv A outer s H E hr => (dss_one (ds_ret (de_bin od_sub (de_bin od_shl de_int (de_ix (de_im (pv 0)) de_int)) de_int))))
noncomputable def gf_winning_starts : GS := (sSeq (sExpr (gCall [none] m_check_web (gCons (gVar 0) gNil))) (sSeq (sSet 1 (gCall [none] m_size_table (gCons (gVar 0) gNil))) (sSeq (sSet 2 (gCall [none] m_whole_mask (gCons (gVar 0) gNil))) (sRet (gLc [3] (giR1 (gBin ixD (gVar 0) (gC (.int 0)))) (ggName 3) (gT (gBin eqD (gBin ixD (gVar 1) (gBin xorD (gVar 2) (gBin shlD (gC (.int 1)) (gVar 3)))) (gBin ixD (gVar 1) (gVar 2)))) (gVar 3))))))
noncomputable def m_winning_starts : List D → Option (D × List D) := runFn c_winning_starts.ino N_winning_starts.length gf_winning_starts
theorem ok_winning_starts (T : Txt K mg) {f : Addr} {fd : FuncData} (D0 : Dn K mg "winning_starts" s_winning_starts ["web"] f fd) : FnOk P w K mg base CX0 7 f fd ["web"] (spD K c_winning_starts 1 1 m_winning_starts) := by
  obtain ⟨f_check_web, fd_check_web, D_check_web⟩ := T.d_check_web
  obtain ⟨f_size_table, fd_size_table, D_size_table⟩ := T.d_size_table
  obtain ⟨f_whole_mask, fd_whole_mask, D_whole_mask⟩ := T.d_whole_mask
  exact dl_fn D0.F sc_winning_starts (by decide) (by decide) (by decide) (fun cdv A outer s H E hr => (dss_cons (ds_expr (de_call (ok_check_web T D_check_web) (hr.mono (by decide)) D_check_web.g D_check_web.F.kp D_check_web.b (da_cons (de_im (pv 0)) da_nil))) (dss_cons (ds_set (i := 1) (de_call (ok_size_table T D_size_table) (hr.mono (by decide)) D_size_table.g D_size_table.F.kp D_size_table.b (da_cons (de_im (pv 0)) da_nil)) sc_winning_starts.nd) (dss_cons (ds_set (i := 2) (de_call (ok_whole_mask T D_whole_mask) (hr.mono (by decide)) D_whole_mask.g D_whole_mask.F.kp D_whole_mask.b (da_cons (de_im (pv 0)) da_nil)) sc_winning_starts.nd) (dss_one (ds_ret (de_lc (own := [("place", 3)]) rfl sc_winning_starts.nd (di_rng1 (de_ix (de_im (pv 0)) de_int) T.n_range) (blkOk_by (own := [("place", 3)]) (N := N_winning_starts) (sc := defScope s_winning_starts) (by decide +kernel)) (fun _ _ _ _ _ => (dg_name (i := 3) sc_winning_starts.nd)) (fun _ _ _ _ _ => (dts_one (dt_cmp (od_eq (u4 hr)) (de_ix (de_im (pv 1)) (de_bin od_xor (de_im (pv 2)) (de_bin od_shl de_int (de_im (pv 3))))) (de_ix (de_im (pv 1)) (de_im (pv 2)))))) (fun _ _ _ _ _ => (de_im (pv 3))))))))))
theorem kb_winning_starts_0 {f : Addr} {fd : FuncData} (F : Fun K "winning_starts" "winning_starts" s_winning_starts f fd) : KB0 K fd ["web"] ["web"] [0] := kb_of F (fun kV doc pm an cdv ct ws hl => match ws, hl with | [_], _ => rfl)
noncomputable def gf_tie_between : GS := (sRet (gIf (gT (gBin ltD (gVar 0) (gVar 1))) (gTup (gCons (gVar 0) (gCons (gVar 1) gNil))) (gTup (gCons (gVar 1) (gCons (gVar 0) gNil)))))
noncomputable def m_tie_between : List D → Option (D × List D) := runFn c_tie_between.ino N_tie_between.length gf_tie_between
theorem ok_tie_between (T : Txt K mg) {f : Addr} {fd : FuncData} (D0 : Dn K mg "tie_between" s_tie_between ["x", "y"] f fd) : FnOk P w K mg base CX0 2 f fd ["x", "y"] (spD K c_tie_between 2 0 m_tie_between) := by
  exact dl_fn D0.F sc_tie_between (by decide) (by decide) (by decide) (fun cdv A outer s H E hr => (dss_one (ds_ret (de_if (dt_cmp (od_lt (u0 hr)) (de_im (pv 0)) (de_im (pv 1))) (de_tup (da_cons (de_im (pv 0)) (da_cons (de_im (pv 1)) da_nil))) (de_tup (da_cons (de_im (pv 1)) (da_cons (de_im (pv 0)) da_nil)))))))
noncomputable def gf_is_walk : GS := (sSeq (sIf (gOr (gNot (gTru (gUn (isiD "tuple") (gVar 1)))) (gT (gBin eqD (gUn lenD (gVar 1)) (gC (.int 0))))) (sRet (gC (.bool false))) sNil) (sSeq (sIf (gOr (gNot (gTru (gUn allD (gLc [3] (giS (gVar 1)) (ggName 3) gcYes (gCall [none, none, none] m_is_between (gCons (gC (.int 0)) (gCons (gVar 3) (gCons (gBin subD (gBin ixD (gVar 0) (gC (.int 0))) (gC (.int 1))) gNil)))))))) (gT (gBin ltD (gUn lenSetD (gVar 1)) (gUn lenD (gVar 1))))) (sRet (gC (.bool false))) sNil) (sRet (gUn allD (gLc [2] (giR1 (gBin subD (gUn lenD (gVar 1)) (gC (.int 1)))) (ggName 2) gcYes (gBin (inD false) (gCall [none, none] m_tie_between (gCons (gBin ixD (gVar 1) (gVar 2)) (gCons (gBin ixD (gVar 1) (gBin addD (gVar 2) (gC (.int 1)))) gNil))) (gBin ixD (gVar 0) (gC (.int 1)))))))))
noncomputable def m_is_walk : List D → Option (D × List D) := runFn c_is_walk.ino N_is_walk.length gf_is_walk
theorem ok_is_walk (T : Txt K mg) {f : Addr} {fd : FuncData} (D0 : Dn K mg "is_walk" s_is_walk ["web", "value"] f fd) : FnOk P w K mg base CX0 4 f fd ["web", "value"] (spD K c_is_walk 2 0 m_is_walk) := by
  obtain ⟨f_is_between, fd_is_between, D_is_between⟩ := T.d_is_between
  obtain ⟨f_tie_between, fd_tie_between, D_tie_between⟩ := T.d_tie_between
  exact dl_fn D0.F sc_is_walk (by decide) (by decide) (by decide) (fun cdv A outer s H E hr => (dss_cons (ds_if (dt_w (dw_or (dt_not (dt_tru (de_isi (Ty := "tuple") (by decide +kernel) (de_im (pv 1)) T.n_isinstance T.n_tuple))) (dw_or1 (dt_cmp (od_eq (u4 hr)) (de_callB (cd_len (n := 0)) (de_im (pv 1)) T.n_len) de_int)))) (dss_one (ds_ret de_bl)) dss_nil) (dss_cons (ds_if (dt_w (dw_or (dt_not (dt_tru (de_callB (cd_all rfl) (de_lc (own := [("place", 3)]) rfl sc_is_walk.nd (di_seq (de_im (pv 1))) (blkOk_by (own := [("place", 3)]) (N := N_is_walk) (sc := defScope s_is_walk) (by decide +kernel)) (fun _ _ _ _ _ => (dg_name (i := 3) sc_is_walk.nd)) (fun _ _ _ _ _ => dts_nil) (fun _ _ _ _ _ => (de_call (ok_is_between T D_is_between) (hr.mono (by decide)) D_is_between.g D_is_between.F.kp D_is_between.b (da_cons de_int (da_cons (de_im (pv 3)) (da_cons (de_bin od_sub (de_ix (de_im (pv 0)) de_int) de_int) da_nil)))))) T.n_all))) (dw_or1 (dt_cmp (od_lt (u0 hr)) (de_lenSet (de_im (pv 1)) T.n_len T.n_set) (de_callB (cd_len (n := 0)) (de_im (pv 1)) T.n_len))))) (dss_one (ds_ret de_bl)) dss_nil) (dss_one (ds_ret (de_callB (cd_all rfl) (de_lc (own := [("k", 2)]) rfl sc_is_walk.nd (di_rng1 (de_bin od_sub (de_callB (cd_len (n := 0)) (de_im (pv 1)) T.n_len) de_int) T.n_range) (blkOk_by (own := [("k", 2)]) (N := N_is_walk) (sc := defScope s_is_walk) (by decide +kernel)) (fun _ _ _ _ _ => (dg_name (i := 2) sc_is_walk.nd)) (fun _ _ _ _ _ => dts_nil) (fun _ _ _ _ _ => (de_cmp (od_in (u5 hr)) (de_call (ok_tie_between T D_tie_between) (hr.mono (by decide)) D_tie_between.g D_tie_between.F.kp D_tie_between.b (da_cons (de_ix (de_im (pv 1)) (de_im (pv 2))) (da_cons (de_ix (de_im (pv 1)) (de_frz (de_bin od_add (de_im (pv 2)) de_int) (nd_bin nd_addD))) da_nil))) (de_ix (de_im (pv 0)) de_int)))) T.n_all))))))
noncomputable def gf_check_walk : GS := (sIf (gNot (gTru (gCall [none, none] m_is_walk (gCons (gVar 0) (gCons (gVar 1) gNil))))) sBad sNil)
noncomputable def m_check_walk : List D → Option (D × List D) := runFn c_check_walk.ino N_check_walk.length gf_check_walk
theorem ok_check_walk (T : Txt K mg) {f : Addr} {fd : FuncData} (D0 : Dn K mg "check_walk" s_check_walk ["web", "value"] f fd) : FnOk P w K mg base CX0 5 f fd ["web", "value"] (spD K c_check_walk 2 0 m_check_walk) := by
  obtain ⟨f_is_walk, fd_is_walk, D_is_walk⟩ := T.d_is_walk
  exact dl_fn D0.F sc_check_walk (by decide) (by decide) (by decide) (fun cdv A outer s H E hr => (dss_one (ds_if (dt_not (dt_tru (de_call (ok_is_walk T D_is_walk) (hr.mono (by decide)) D_is_walk.g D_is_walk.F.kp D_is_walk.b (da_cons (de_im (pv 0)) (da_cons (de_im (pv 1)) da_nil))))) (dss_one ds_bad) dss_nil)))
noncomputable def gf_mask_of : GS := (sRet (gUn sumD (gLc [1] (giS (gVar 0)) (ggName 1) gcYes (gBin shlD (gC (.int 1)) (gVar 1)))))
noncomputable def m_mask_of : List D → Option (D × List D) := runFn c_mask_of.ino N_mask_of.length gf_mask_of
theorem ok_mask_of (T : Txt K mg) {f : Addr} {fd : FuncData} (D0 : Dn K mg "mask_of" s_mask_of ["places"] f fd) : FnOk P w K mg base CX0 2 f fd ["places"] (spD K c_mask_of 1 0 m_mask_of) := by
  exact dl_fn D0.F sc_mask_of (by decide) (by decide) (by decide) (fun cdv A outer s H E hr => (dss_one (ds_ret (de_callB (cd_sum rfl) (de_lc (own := [("place", 1)]) rfl sc_mask_of.nd (di_seq (de_im (pv 0))) (blkOk_by (own := [("place", 1)]) (N := N_mask_of) (sc := defScope s_mask_of) (by decide +kernel)) (fun _ _ _ _ _ => (dg_name (i := 1) sc_mask_of.nd)) (fun _ _ _ _ _ => dts_nil) (fun _ _ _ _ _ => (de_bin od_shl de_int (de_im (pv 1))))) T.n_sum))))
noncomputable def gf_outside : GS := (sRet (gBin andD (gCall [none] m_whole_mask (gCons (gVar 0) gNil)) (gUn invD (gCall [none] m_mask_of (gCons (gVar 1) gNil)))))
noncomputable def m_outside : List D → Option (D × List D) := runFn c_outside.ino N_outside.length gf_outside
theorem ok_outside (T : Txt K mg) {f : Addr} {fd : FuncData} (D0 : Dn K mg "outside" s_outside ["web", "walk"] f fd) : FnOk P w K mg base CX0 3 f fd ["web", "walk"] (spD K c_outside 2 0 m_outside) := by
  obtain ⟨f_whole_mask, fd_whole_mask, D_whole_mask⟩ := T.d_whole_mask
  obtain ⟨f_mask_of, fd_mask_of, D_mask_of⟩ := T.d_mask_of
  exact dl_fn D0.F sc_outside (by decide) (by decide) (by decide) (fun cdv A outer s H E hr => (dss_one (ds_ret (de_bin od_and (de_call (ok_whole_mask T D_whole_mask) (hr.mono (by decide)) D_whole_mask.g D_whole_mask.F.kp D_whole_mask.b (da_cons (de_im (pv 0)) da_nil)) (de_un ud_inv (de_call (ok_mask_of T D_mask_of) (hr.mono (by decide)) D_mask_of.g D_mask_of.F.kp D_mask_of.b (da_cons (de_im (pv 1)) da_nil)))))))
noncomputable def gf_mover_wins : GS := (sSeq (sExpr (gCall [none] m_check_web (gCons (gVar 0) gNil))) (sSeq (sExpr (gCall [none, none] m_check_walk (gCons (gVar 0) (gCons (gVar 1) gNil)))) (sSeq (sSet 2 (gCall [none] m_size_table (gCons (gVar 0) gNil))) (sSeq (sSet 3 (gCall [none, none] m_outside (gCons (gVar 0) (gCons (gVar 1) gNil)))) (sRet (gBin gtD (gBin ixD (gVar 2) (gBin orD (gVar 3) (gBin shlD (gC (.int 1)) (gBin ixD (gVar 1) (gUn negD (gC (.int 1))))))) (gBin ixD (gVar 2) (gVar 3))))))))
noncomputable def m_mover_wins : List D → Option (D × List D) := runFn c_mover_wins.ino N_mover_wins.length gf_mover_wins
theorem ok_mover_wins (T : Txt K mg) {f : Addr} {fd : FuncData} (D0 : Dn K mg "mover_wins" s_mover_wins ["web", "walk"] f fd) : FnOk P w K mg base CX0 7 f fd ["web", "walk"] (spD K c_mover_wins 2 0 m_mover_wins) := by
  obtain ⟨f_check_web, fd_check_web, D_check_web⟩ := T.d_check_web
  obtain ⟨f_check_walk, fd_check_walk, D_check_walk⟩ := T.d_check_walk
  obtain ⟨f_size_table, fd_size_table, D_size_table⟩ := T.d_size_table
  obtain ⟨f_outside, fd_outside, D_outside⟩ := T.d_outside
  exact dl_fn D0.F sc_mover_wins (by decide) (by decide) (by decide) (fun cdv A outer s H E hr => (dss_cons (ds_expr (de_call (ok_check_web T D_check_web) (hr.mono (by decide)) D_check_web.g D_check_web.F.kp D_check_web.b (da_cons (de_im (pv 0)) da_nil))) (dss_cons (ds_expr (de_call (ok_check_walk T D_check_walk) (hr.mono (by decide)) D_check_walk.g D_check_walk.F.kp D_check_walk.b (da_cons (de_im (pv 0)) (da_cons (de_im (pv 1)) da_nil)))) (dss_cons (ds_set (i := 2) (de_call (ok_size_table T D_size_table) (hr.mono (by decide)) D_size_table.g D_size_table.F.kp D_size_table.b (da_cons (de_im (pv 0)) da_nil)) sc_mover_wins.nd) (dss_cons (ds_set (i := 3) (de_call (ok_outside T D_outside) (hr.mono (by decide)) D_outside.g D_outside.F.kp D_outside.b (da_cons (de_im (pv 0)) (da_cons (de_im (pv 1)) da_nil))) sc_mover_wins.nd) (dss_one (ds_ret (de_cmp od_gt (de_ix (de_im (pv 2)) (de_bin od_or (de_im (pv 3)) (de_bin od_shl de_int (de_ix (de_im (pv 1)) (de_un ud_neg de_int))))) (de_ix (de_im (pv 2)) (de_im (pv 3)))))))))))
theorem kb_mover_wins_1_0 {f : Addr} {fd : FuncData} (F : Fun K "mover_wins" "mover_wins" s_mover_wins f fd) : KB0 K fd ["web", "walk"] ["walk", "web"] [1, 0] := kb_of F (fun kV doc pm an cdv ct ws hl => match ws, hl with | [_, _], _ => rfl)
noncomputable def gf_lot_by : GS := (sRet (gUn tupleD (gLc [1] (giR1 (gC (.int 12))) (ggName 1) (gTru (gBin andD (gBin shrD (gVar 0) (gVar 1)) (gC (.int 1)))) (gVar 1))))
noncomputable def m_lot_by : List D → Option (D × List D) := runFn c_lot_by.ino N_lot_by.length gf_lot_by
theorem ok_lot_by (T : Txt K mg) {f : Addr} {fd : FuncData} (D0 : Dn K mg "lot_by" s_lot_by ["mask"] f fd) : FnOk P w K mg base CX0 2 f fd ["mask"] (spD K c_lot_by 1 0 m_lot_by) := by
  exact dl_fn D0.F sc_lot_by (by decide) (by decide) (by decide) (fun cdv A outer s H E hr => (dss_one (ds_ret (de_callT cd_tuple (de_lc (own := [("place", 1)]) rfl sc_lot_by.nd (di_rng1 (de_globI T.k_MOST_PLACES.choose_spec) T.n_range) (blkOk_by (own := [("place", 1)]) (N := N_lot_by) (sc := defScope s_lot_by) (by decide +kernel)) (fun _ _ _ _ _ => (dg_name (i := 1) sc_lot_by.nd)) (fun _ _ _ _ _ => (dts_one (dt_tru (de_bin od_and (de_bin od_shr (de_im (pv 0)) (de_im (pv 1))) de_int)))) (fun _ _ _ _ _ => (de_im (pv 1)))) T.n_tuple))))
noncomputable def gf_winning_moves : GS := (sSeq (sExpr (gCall [none] m_check_web (gCons (gVar 0) gNil))) (sSeq (sExpr (gCall [none, none] m_check_walk (gCons (gVar 0) (gCons (gVar 1) gNil)))) (sSeq (sSet 2 (gCall [none] m_size_table (gCons (gVar 0) gNil))) (sSeq (sSet 3 (gCall [none, none] m_outside (gCons (gVar 0) (gCons (gVar 1) gNil)))) (sSeq (sSet 4 (gCall [none] m_lot_by (gCons (gBin andD (gBin ixD (gCall [none] m_neighbour_masks (gCons (gVar 0) gNil)) (gBin ixD (gVar 1) (gUn negD (gC (.int 1))))) (gVar 3)) gNil))) (sRet (gLc [5] (giS (gVar 4)) (ggName 5) (gT (gBin eqD (gBin ixD (gVar 2) (gBin xorD (gVar 3) (gBin shlD (gC (.int 1)) (gVar 5)))) (gBin ixD (gVar 2) (gVar 3)))) (gVar 5))))))))
noncomputable def m_winning_moves : List D → Option (D × List D) := runFn c_winning_moves.ino N_winning_moves.length gf_winning_moves
theorem ok_winning_moves (T : Txt K mg) {f : Addr} {fd : FuncData} (D0 : Dn K mg "winning_moves" s_winning_moves ["web", "walk"] f fd) : FnOk P w K mg base CX0 7 f fd ["web", "walk"] (spD K c_winning_moves 2 1 m_winning_moves) := by
  obtain ⟨f_check_web, fd_check_web, D_check_web⟩ := T.d_check_web
  obtain ⟨f_check_walk, fd_check_walk, D_check_walk⟩ := T.d_check_walk
  obtain ⟨f_size_table, fd_size_table, D_size_table⟩ := T.d_size_table
  obtain ⟨f_outside, fd_outside, D_outside⟩ := T.d_outside
  obtain ⟨f_lot_by, fd_lot_by, D_lot_by⟩ := T.d_lot_by
  obtain ⟨f_neighbour_masks, fd_neighbour_masks, D_neighbour_masks⟩ := T.d_neighbour_masks
  exact dl_fn D0.F sc_winning_moves (by decide) (by decide) (by decide) (fun cdv A outer s H E hr => (dss_cons (ds_expr (de_call (ok_check_web T D_check_web) (hr.mono (by decide)) D_check_web.g D_check_web.F.kp D_check_web.b (da_cons (de_im (pv 0)) da_nil))) (dss_cons (ds_expr (de_call (ok_check_walk T D_check_walk) (hr.mono (by decide)) D_check_walk.g D_check_walk.F.kp D_check_walk.b (da_cons (de_im (pv 0)) (da_cons (de_im (pv 1)) da_nil)))) (dss_cons (ds_set (i := 2) (de_call (ok_size_table T D_size_table) (hr.mono (by decide)) D_size_table.g D_size_table.F.kp D_size_table.b (da_cons (de_im (pv 0)) da_nil)) sc_winning_moves.nd) (dss_cons (ds_set (i := 3) (de_call (ok_outside T D_outside) (hr.mono (by decide)) D_outside.g D_outside.F.kp D_outside.b (da_cons (de_im (pv 0)) (da_cons (de_im (pv 1)) da_nil))) sc_winning_moves.nd) (dss_cons (ds_set (i := 4) (de_call (ok_lot_by T D_lot_by) (hr.mono (by decide)) D_lot_by.g D_lot_by.F.kp D_lot_by.b (da_cons (de_bin od_and (de_ix (de_call (ok_neighbour_masks T D_neighbour_masks) (hr.mono (by decide)) D_neighbour_masks.g D_neighbour_masks.F.kp D_neighbour_masks.b (da_cons (de_im (pv 0)) da_nil)) (de_ix (de_im (pv 1)) (de_un ud_neg de_int))) (de_im (pv 3))) da_nil)) sc_winning_moves.nd) (dss_one (ds_ret (de_lc (own := [("place", 5)]) rfl sc_winning_moves.nd (di_seq (de_im (pv 4))) (blkOk_by (own := [("place", 5)]) (N := N_winning_moves) (sc := defScope s_winning_moves) (by decide +kernel)) (fun _ _ _ _ _ => (dg_name (i := 5) sc_winning_moves.nd)) (fun _ _ _ _ _ => (dts_one (dt_cmp (od_eq (u4 hr)) (de_ix (de_im (pv 2)) (de_bin od_xor (de_im (pv 3)) (de_bin od_shl de_int (de_im (pv 5))))) (de_ix (de_im (pv 2)) (de_im (pv 3)))))) (fun _ _ _ _ _ => (de_im (pv 5))))))))))))
theorem kb_winning_moves_1_0 {f : Addr} {fd : FuncData} (F : Fun K "winning_moves" "winning_moves" s_winning_moves f fd) : KB0 K fd ["web", "walk"] ["walk", "web"] [1, 0] := kb_of F (fun kV doc pm an cdv ct ws hl => match ws, hl with | [_, _], _ => rfl)
noncomputable def gf__law_near : GS := (sRet (gLc [2] (giR1 (gBin ixD (gVar 0) (gC (.int 0)))) (ggName 2) (gT (gBin (inD false) (gTup (gCons (gBin min2D (gVar 2) (gVar 1)) (gCons (gBin max2D (gVar 2) (gVar 1)) gNil))) (gBin ixD (gVar 0) (gC (.int 1))))) (gVar 2)))
noncomputable def m__law_near : List D → Option (D × List D) := runFn c__law_near.ino N__law_near.length gf__law_near
theorem ok__law_near (T : Txt K mg) {f : Addr} {fd : FuncData} (D0 : Dn K mg "_law_near" s__law_near ["_law_web_here", "_law_place"] f fd) : FnOk P w K mg base CX0 2 f fd ["_law_web_here", "_law_place"] (spD K c__law_near 2 0 m__law_near) := by
  exact dl_fn D0.F sc__law_near (by decide) (by decide) (by decide) (fun cdv A outer s H E hr => (dss_one (ds_ret (de_frz (de_lc (own := [("_law_x", 2)]) rfl sc__law_near.nd (di_rng1 (de_ix (de_im (pv 0)) de_int) T.n_range) (blkOk_by (own := [("_law_x", 2)]) (N := N__law_near) (sc := defScope s__law_near) (by decide +kernel)) (fun _ _ _ _ _ => (dg_name (i := 2) sc__law_near.nd)) (fun _ _ _ _ _ => (dts_one (dt_cmp (od_in (u5 hr)) (de_tup (da_cons (de_callB2 (cd_min2 rfl) (de_im (pv 2)) (de_im (pv 1)) T.n_min) (da_cons (de_callB2 (cd_max2 rfl) (de_im (pv 2)) (de_im (pv 1)) T.n_max) da_nil))) (de_ix (de_im (pv 0)) de_int)))) (fun _ _ _ _ _ => (de_im (pv 2)))) nd_gLc))))
noncomputable def gf__law_wins (mself : List D → Option (D × List D)) : GS := (sSeq (sSet 3 (gTup (gCons (gUn tupleD (gUn sortAD (gVar 1))) (gCons (gBin ixD (gVar 1) (gUn negD (gC (.int 1)))) gNil)))) (sSeq (sIf (gT (gBin ninN (gVar 3) (gVar 2))) (sSeq (sSet 4 (gLc [5] (giS (gCall [none, none] m__law_near (gCons (gVar 0) (gCons (gBin ixD (gVar 1) (gUn negD (gC (.int 1)))) gNil)))) (ggName 5) (gT (gBin (inD true) (gVar 5) (gVar 1))) (gVar 5))) (sSetKey 2 (gVar 3) (gBin neD (gLc [5] (giS (gVar 4)) (ggName 5) (gNot (gTru (gCall [none, none, some 2] mself (gCons (gVar 0) (gCons (gBin addD (gVar 1) (gTup (gCons (gVar 5) gNil))) (gConsB 2 gNil)))))) (gVar 5)) (gLst gNil)))) sNil) (sRet (gBin getD (gVar 2) (gVar 3)))))
noncomputable def mr__law_wins : Nat → List D → Option (D × List D)
  | 0 => fun _ => none
  | dd + 1 => runFn c__law_wins.ino N__law_wins.length (gf__law_wins (mr__law_wins dd))
noncomputable def m__law_wins : List D → Option (D × List D) := mr__law_wins 24
theorem okr__law_wins (T : Txt K mg) : ∀ (dd : Nat) {f : Addr} {fd : FuncData} (D0 : Dn K mg "_law_wins" s__law_wins ["_law_web_here", "_law_walk_here", "_law_known"] f fd), FnOk P w K mg base CX0 (3 + dd) f fd ["_law_web_here", "_law_walk_here", "_law_known"] (spD K c__law_wins 3 0 (mr__law_wins dd))
  | 0, f, fd, D0 => fnok_none (by rfl)
  | dd + 1, f, fd, D0 => by
    obtain ⟨f__law_near, fd__law_near, D__law_near⟩ := T.d__law_near
    obtain ⟨f__law_wins, fd__law_wins, D__law_wins⟩ := T.d__law_wins
    exact dl_fn (k := 3 + dd) D0.F sc__law_wins (by decide) (by decide) (by decide) (fun cdv A outer s H E hr => (dss_cons (ds_set (i := 3) (de_tup (da_cons (de_callT cd_tuple (de_callB cd_sortedA (de_im (pv 1)) T.n_sorted) T.n_tuple) (da_cons (de_ix (de_im (pv 1)) (de_un ud_neg de_int)) da_nil))) sc__law_wins.nd) (dss_cons (ds_if (dt_cmp (od_ninN (u5 hr)) (de_im (pv 3)) (de_bor (pv 2))) (dss_cons (ds_setLc0 (i := 4) (own := [("_law_x", 5)]) rfl sc__law_wins.nd (di_seq (de_call (ok__law_near T D__law_near) (hr.mono (by omega)) D__law_near.g D__law_near.F.kp D__law_near.b (da_cons (de_im (pv 0)) (da_cons (de_ix (de_im (pv 1)) (de_un ud_neg de_int)) da_nil)))) (blkOk_by (own := [("_law_x", 5)]) (N := N__law_wins) (sc := defScope s__law_wins) (by decide +kernel)) (fun _ _ _ _ _ => (dg_name (i := 5) sc__law_wins.nd)) (fun _ _ _ _ _ => (dts_one (dt_cmp (od_nin (u5 hr)) (de_im (pv 5)) (de_im (pv 1))))) (fun _ _ _ _ _ => (de_im (pv 5))) (sw_true rfl rfl rfl (by decide +kernel))) (dss_one (ds_setKey (u5 hr) (pv 2) (de_im (pv 3)) (de_cmp (od_ne (u4 hr)) (de_lc (own := [("_law_x", 5)]) rfl sc__law_wins.nd (di_seq (de_im (pv 4))) (blkOk_by (own := [("_law_x", 5)]) (N := N__law_wins) (sc := defScope s__law_wins) (by decide +kernel)) (fun _ _ _ _ _ => (dg_name (i := 5) sc__law_wins.nd)) (fun _ _ _ _ _ => (dts_one (dt_not (dt_tru (de_call (okr__law_wins T dd D__law_wins) (hr.mono (by omega)) D__law_wins.g D__law_wins.F.kp D__law_wins.b (da_cons (de_im (pv 0)) (da_cons (de_frz (de_bin od_add (de_im (pv 1)) (de_tup (da_cons (de_im (pv 5)) da_nil))) (nd_bin nd_addD)) (da_bor (pv 2) da_nil)))))))) (fun _ _ _ _ _ => (de_im (pv 5)))) (de_lst da_nil))))) dss_nil) (dss_one (ds_ret (de_getKey (u5 hr) (de_bor (pv 2)) (de_im (pv 3))))))))
theorem ok__law_wins (T : Txt K mg) {f : Addr} {fd : FuncData} (D0 : Dn K mg "_law_wins" s__law_wins ["_law_web_here", "_law_walk_here", "_law_known"] f fd) : FnOk P w K mg base CX0 27 f fd ["_law_web_here", "_law_walk_here", "_law_known"] (spD K c__law_wins 3 0 m__law_wins) := okr__law_wins T 24 D0
noncomputable def gf__law_moves : GS := (sSeq (sSet 3 (gLc [4] (giS (gCall [none, none] m__law_near (gCons (gVar 0) (gCons (gBin ixD (gVar 1) (gUn negD (gC (.int 1)))) gNil)))) (ggName 4) (gT (gBin (inD true) (gVar 4) (gVar 1))) (gVar 4))) (sRet (gLc [4] (giS (gVar 3)) (ggName 4) (gNot (gTru (gCall [none, none, some 2] m__law_wins (gCons (gVar 0) (gCons (gBin addD (gVar 1) (gTup (gCons (gVar 4) gNil))) (gConsB 2 gNil)))))) (gVar 4))))
noncomputable def m__law_moves : List D → Option (D × List D) := runFn c__law_moves.ino N__law_moves.length gf__law_moves
theorem ok__law_moves (T : Txt K mg) {f : Addr} {fd : FuncData} (D0 : Dn K mg "_law_moves" s__law_moves ["_law_web_here", "_law_walk_here", "_law_known"] f fd) : FnOk P w K mg base CX0 28 f fd ["_law_web_here", "_law_walk_here", "_law_known"] (spD K c__law_moves 3 0 m__law_moves) := by
  obtain ⟨f__law_near, fd__law_near, D__law_near⟩ := T.d__law_near
  obtain ⟨f__law_wins, fd__law_wins, D__law_wins⟩ := T.d__law_wins
  exact dl_fn D0.F sc__law_moves (by decide) (by decide) (by decide) (fun cdv A outer s H E hr => (dss_cons (ds_setLc0 (i := 3) (own := [("_law_x", 4)]) rfl sc__law_moves.nd (di_seq (de_call (ok__law_near T D__law_near) (hr.mono (by decide)) D__law_near.g D__law_near.F.kp D__law_near.b (da_cons (de_im (pv 0)) (da_cons (de_ix (de_im (pv 1)) (de_un ud_neg de_int)) da_nil)))) (blkOk_by (own := [("_law_x", 4)]) (N := N__law_moves) (sc := defScope s__law_moves) (by decide +kernel)) (fun _ _ _ _ _ => (dg_name (i := 4) sc__law_moves.nd)) (fun _ _ _ _ _ => (dts_one (dt_cmp (od_nin (u5 hr)) (de_im (pv 4)) (de_im (pv 1))))) (fun _ _ _ _ _ => (de_im (pv 4))) (sw_true rfl rfl rfl (by decide +kernel))) (dss_one (ds_ret (de_frz (de_lc (own := [("_law_x", 4)]) rfl sc__law_moves.nd (di_seq (de_im (pv 3))) (blkOk_by (own := [("_law_x", 4)]) (N := N__law_moves) (sc := defScope s__law_moves) (by decide +kernel)) (fun _ _ _ _ _ => (dg_name (i := 4) sc__law_moves.nd)) (fun _ _ _ _ _ => (dts_one (dt_not (dt_tru (de_call (ok__law_wins T D__law_wins) (hr.mono (by decide)) D__law_wins.g D__law_wins.F.kp D__law_wins.b (da_cons (de_im (pv 0)) (da_cons (de_frz (de_bin od_add (de_im (pv 1)) (de_tup (da_cons (de_im (pv 4)) da_nil))) (nd_bin nd_addD)) (da_bor (pv 2) da_nil)))))))) (fun _ _ _ _ _ => (de_im (pv 4)))) nd_gLc)))))
noncomputable def gf__law_walk : GS := (sSeq (sSet 2 (gLst (gCons (gCall [some 0, none] m__law_pick (gConsB 0 (gCons (gBin ixD (gVar 1) (gC (.int 0))) gNil))) gNil))) (sSeq (sFor (giR1 (gCall [some 0, none] m__law_pick (gConsB 0 (gCons (gBin ixD (gVar 1) (gC (.int 0))) gNil)))) (ggName 3) (sSeq (sSet 4 (gLc [5] (giS (gCall [none, none] m__law_near (gCons (gVar 1) (gCons (gBin ixD (gVar 2) (gUn negD (gC (.int 1)))) gNil)))) (ggName 5) (gT (gBin (inD true) (gVar 5) (gVar 2))) (gVar 5))) (sIf (gT (gBin neD (gVar 4) (gLst gNil))) (sExpr (gApp 2 (gBin ixD (gVar 4) (gCall [some 0, none] m__law_pick (gConsB 0 (gCons (gUn lenD (gVar 4)) gNil)))))) sNil))) (sRet (gUn tupleD (gVar 2)))))
noncomputable def m__law_walk : List D → Option (D × List D) := runFn c__law_walk.ino N__law_walk.length gf__law_walk
theorem ok__law_walk (T : Txt K mg) {f : Addr} {fd : FuncData} (D0 : Dn K mg "_law_walk" s__law_walk ["_law_spring_here", "_law_web_here"] f fd) : FnOk P w K mg base CX0 3 f fd ["_law_spring_here", "_law_web_here"] (spD K c__law_walk 2 0 m__law_walk) := by
  obtain ⟨f__law_pick, fd__law_pick, D__law_pick⟩ := T.d__law_pick
  obtain ⟨f__law_near, fd__law_near, D__law_near⟩ := T.d__law_near
  exact dl_fn D0.F sc__law_walk (by decide) (by decide) (by decide) (fun cdv A outer s H E hr => (dss_cons (ds_set (i := 2) (de_lst (da_cons (de_call (ok__law_pick T D__law_pick) (hr.mono (by decide)) D__law_pick.g D__law_pick.F.kp D__law_pick.b (da_bor (pv 0) (da_cons (de_ix (de_im (pv 1)) de_int) da_nil))) da_nil)) sc__law_walk.nd) (dss_cons (ds_for PassesOwn.never rfl (di_rng1 (de_call (ok__law_pick T D__law_pick) (hr.mono (by decide)) D__law_pick.g D__law_pick.F.kp D__law_pick.b (da_bor (pv 0) (da_cons (de_ix (de_im (pv 1)) de_int) da_nil))) T.n_range) (dg_name (i := 3) sc__law_walk.nd) (dss_cons (ds_setLc0 (i := 4) (own := [("_law_x", 5)]) rfl sc__law_walk.nd (di_seq (de_call (ok__law_near T D__law_near) (hr.mono (by decide)) D__law_near.g D__law_near.F.kp D__law_near.b (da_cons (de_im (pv 1)) (da_cons (de_ix (de_bor (pv 2)) (de_un ud_neg de_int)) da_nil)))) (blkOk_by (own := [("_law_x", 5)]) (N := N__law_walk) (sc := defScope s__law_walk) (by decide +kernel)) (fun _ _ _ _ _ => (dg_name (i := 5) sc__law_walk.nd)) (fun _ _ _ _ _ => (dts_one (dt_cmp (od_nin (u5 hr)) (de_im (pv 5)) (de_bor (pv 2))))) (fun _ _ _ _ _ => (de_im (pv 5))) (sw_true rfl rfl rfl (by decide +kernel))) (dss_one (ds_if (dt_cmp (od_ne (u4 hr)) (de_im (pv 4)) (de_lst da_nil)) (dss_one (ds_expr (de_app (pv 2) (de_ix (de_im (pv 4)) (de_call (ok__law_pick T D__law_pick) (hr.mono (by decide)) D__law_pick.g D__law_pick.F.kp D__law_pick.b (da_bor (pv 0) (da_cons (de_callB (cd_len (n := 0)) (de_im (pv 4)) T.n_len) da_nil))))))) dss_nil)))) (dss_one (ds_ret (de_callT cd_tuple (de_bor (pv 2)) T.n_tuple))))))
noncomputable def gf__law_is_number : GS := (sRet (gAndV (gUn (isiD "int") (gVar 0)) (gNotV (gUn (isiD "bool") (gVar 0)))))
noncomputable def m__law_is_number : List D → Option (D × List D) := runFn c__law_is_number.ino N__law_is_number.length gf__law_is_number
theorem ok__law_is_number (T : Txt K mg) {f : Addr} {fd : FuncData} (D0 : Dn K mg "_law_is_number" s__law_is_number ["_law_value"] f fd) : FnOk P w K mg base CX0 2 f fd ["_law_value"] (spD K c__law_is_number 1 0 m__law_is_number) := by
  exact dl_fn D0.F sc__law_is_number (by decide) (by decide) (by decide) (fun cdv A outer s H E hr => (dss_one (ds_ret (de_andV (de_isi (Ty := "int") (by decide +kernel) (de_im (pv 0)) T.n_isinstance T.n_int) (de_one (de_notV (de_isi (Ty := "bool") (by decide +kernel) (de_im (pv 0)) T.n_isinstance T.n_bool)))))))
noncomputable def gf_law : GS := (sSeq (sSet 1 (gLO (gCall [none] m__law_spring (gCons (gVar 0) gNil)))) (sSeq (sSet 2 (gCall [some 1, none] m__law_web (gConsB 1 (gCons (gBin addD (gC (.int 1)) (gCall [some 1, none] m__law_pick (gConsB 1 (gCons (gC (.int 6)) gNil)))) gNil)))) (sSeq (sSet 3 (gC (.dict []))) (sSeq (sSet 4 (gBin addD (gLc [11] (giR1 (gBin ixD (gVar 2) (gC (.int 0)))) (ggName 11) gcYes (gTup (gCons (gVar 11) gNil))) (gLst (gCons (gCall [some 1, none] m__law_walk (gConsB 1 (gCons (gVar 2) gNil))) (gCons (gCall [some 1, none] m__law_walk (gConsB 1 (gCons (gVar 2) gNil))) gNil))))) (sSeq (sFor (giS (gVar 4)) (ggName 5) (sSeq (sSet 6 (gCall [none, none] m_mover_wins (gCons (gVar 2) (gCons (gVar 5) gNil)))) (sSeq (sIf (gOr (gNot (gTru (gUn (isiD "bool") (gVar 6)))) (gT (gBin neD (gVar 6) (gCall [none, none, some 3] m__law_wins (gCons (gVar 2) (gCons (gVar 5) (gConsB 3 gNil))))))) (sRet (gC (.bool false))) sNil) (sSeq (sSet 7 (gLO (gCall [none, none] m_winning_moves (gCons (gVar 2) (gCons (gVar 5) gNil))))) (sSeq (sSet 8 (gCall [none, none, some 3] m__law_moves (gCons (gVar 2) (gCons (gVar 5) (gConsB 3 gNil))))) (sSeq (sIf (gOr (gNot (gTru (gUn (isiD "list") (gVar 7)))) (gOr (gT (gBin neD (gLc [11] (giS (gVar 7)) (ggName 11) (gNot (gTru (gCall [none] m__law_is_number (gCons (gVar 11) gNil)))) (gVar 11)) (gLst gNil))) (gT (gBin neD (gVar 7) (gVar 8))))) (sRet (gC (.bool false))) sNil) (sSeq (sExpr (gApp 7 (gBin ixD (gVar 5) (gC (.int 0))))) (sIf (gOr (gT (gBin neD (gLO (gCallK [1, 0] m_winning_moves (gCons (gVar 5) (gCons (gVar 2) gNil)))) (gVar 8))) (gT (gBin neD (gCallK [1, 0] m_mover_wins (gCons (gVar 5) (gCons (gVar 2) gNil))) (gBin neD (gVar 8) (gLst gNil))))) (sRet (gC (.bool false))) sNil)))))))) (sSeq (sSet 9 (gLO (gCall [none] m_winning_starts (gCons (gVar 2) gNil)))) (sSeq (sIf (gOr (gNot (gTru (gUn (isiD "list") (gVar 9)))) (gT (gBin neD (gLc [11] (giS (gVar 9)) (ggName 11) (gNot (gTru (gCall [none] m__law_is_number (gCons (gVar 11) gNil)))) (gVar 11)) (gLst gNil)))) (sRet (gC (.bool false))) sNil) (sSeq (sIf (gT (gBin neD (gVar 9) (gLc [11] (giR1 (gBin ixD (gVar 2) (gC (.int 0)))) (ggName 11) (gNot (gTru (gCall [none, none, some 3] m__law_wins (gCons (gVar 2) (gCons (gTup (gCons (gVar 11) gNil)) (gConsB 3 gNil)))))) (gVar 11)))) (sRet (gC (.bool false))) sNil) (sSeq (sSet 10 (gUn tupleD (gVar 9))) (sSeq (sExpr (gApp 9 (gC (.int 0)))) (sRet (gBin eqD (gUn tupleD (gLO (gCallK [0] m_winning_starts (gCons (gVar 2) gNil)))) (gVar 10)))))))))))))
noncomputable def m_law : List D → Option (D × List D) := runFn c_law.ino N_law.length gf_law
theorem ok_law (T : Txt K mg) {f : Addr} {fd : FuncData} (D0 : Dn K mg "law" s_law ["_law_script"] f fd) : FnOk P w K mg base CX0 29 f fd ["_law_script"] (spD K c_law 1 0 m_law) := by
  obtain ⟨f__law_spring, fd__law_spring, D__law_spring⟩ := T.d__law_spring
  obtain ⟨f__law_web, fd__law_web, D__law_web⟩ := T.d__law_web
  obtain ⟨f__law_pick, fd__law_pick, D__law_pick⟩ := T.d__law_pick
  obtain ⟨f__law_walk, fd__law_walk, D__law_walk⟩ := T.d__law_walk
  obtain ⟨f_mover_wins, fd_mover_wins, D_mover_wins⟩ := T.d_mover_wins
  obtain ⟨f__law_wins, fd__law_wins, D__law_wins⟩ := T.d__law_wins
  obtain ⟨f_winning_moves, fd_winning_moves, D_winning_moves⟩ := T.d_winning_moves
  obtain ⟨f__law_moves, fd__law_moves, D__law_moves⟩ := T.d__law_moves
  obtain ⟨f__law_is_number, fd__law_is_number, D__law_is_number⟩ := T.d__law_is_number
  obtain ⟨f_winning_starts, fd_winning_starts, D_winning_starts⟩ := T.d_winning_starts
  exact dl_fn D0.F sc_law (by decide) (by decide) (by decide) (fun cdv A outer s H E hr => (dss_cons (ds_set (i := 1) (de_lo (de_call (ok__law_spring T D__law_spring) (hr.mono (by decide)) D__law_spring.g D__law_spring.F.kp D__law_spring.b (da_cons (de_im (pv 0)) da_nil))) sc_law.nd) (dss_cons (ds_set (i := 2) (de_call (ok__law_web T D__law_web) (hr.mono (by decide)) D__law_web.g D__law_web.F.kp D__law_web.b (da_bor (pv 1) (da_cons (de_frz (de_bin od_add de_int (de_call (ok__law_pick T D__law_pick) (hr.mono (by decide)) D__law_pick.g D__law_pick.F.kp D__law_pick.b (da_bor (pv 1) (da_cons de_int da_nil)))) (nd_bin nd_addD)) da_nil))) sc_law.nd) (dss_cons (ds_set (i := 3) de_newN sc_law.nd) (dss_cons (ds_set (i := 4) (de_frz (de_bin od_add (de_lc (own := [("_law_x", 11)]) rfl sc_law.nd (di_rng1 (de_ix (de_im (pv 2)) de_int) T.n_range) (blkOk_by (own := [("_law_x", 11)]) (N := N_law) (sc := defScope s_law) (by decide +kernel)) (fun _ _ _ _ _ => (dg_name (i := 11) sc_law.nd)) (fun _ _ _ _ _ => dts_nil) (fun _ _ _ _ _ => (de_tup (da_cons (de_im (pv 11)) da_nil)))) (de_lst (da_cons (de_call (ok__law_walk T D__law_walk) (hr.mono (by decide)) D__law_walk.g D__law_walk.F.kp D__law_walk.b (da_bor (pv 1) (da_cons (de_im (pv 2)) da_nil))) (da_cons (de_call (ok__law_walk T D__law_walk) (hr.mono (by decide)) D__law_walk.g D__law_walk.F.kp D__law_walk.b (da_bor (pv 1) (da_cons (de_im (pv 2)) da_nil))) da_nil)))) (nd_bin nd_addD)) sc_law.nd) (dss_cons (ds_for PassesOwn.never rfl (di_seq (de_im (pv 4))) (dg_name (i := 5) sc_law.nd) (dss_cons (ds_set (i := 6) (de_call (ok_mover_wins T D_mover_wins) (hr.mono (by decide)) D_mover_wins.g D_mover_wins.F.kp D_mover_wins.b (da_cons (de_im (pv 2)) (da_cons (de_im (pv 5)) da_nil))) sc_law.nd) (dss_cons (ds_if (dt_w (dw_or (dt_not (dt_tru (de_isi (Ty := "bool") (by decide +kernel) (de_im (pv 6)) T.n_isinstance T.n_bool))) (dw_or1 (dt_cmp (od_ne (u4 hr)) (de_im (pv 6)) (de_call (ok__law_wins T D__law_wins) (hr.mono (by decide)) D__law_wins.g D__law_wins.F.kp D__law_wins.b (da_cons (de_im (pv 2)) (da_cons (de_im (pv 5)) (da_bor (pv 3) da_nil)))))))) (dss_one (ds_ret de_bl)) dss_nil) (dss_cons (ds_set (i := 7) (de_lo (de_call (ok_winning_moves T D_winning_moves) (hr.mono (by decide)) D_winning_moves.g D_winning_moves.F.kp D_winning_moves.b (da_cons (de_im (pv 2)) (da_cons (de_im (pv 5)) da_nil)))) sc_law.nd) (dss_cons (ds_set (i := 8) (de_call (ok__law_moves T D__law_moves) (hr.mono (by decide)) D__law_moves.g D__law_moves.F.kp D__law_moves.b (da_cons (de_im (pv 2)) (da_cons (de_im (pv 5)) (da_bor (pv 3) da_nil)))) sc_law.nd) (dss_cons (ds_if (dt_w (dw_or (dt_not (dt_tru (de_isi (Ty := "list") (by decide +kernel) (de_bor (pv 7)) T.n_isinstance T.n_list))) (dw_or (dt_cmp (od_ne (u4 hr)) (de_lc (own := [("_law_x", 11)]) rfl sc_law.nd (di_seq (de_bor (pv 7))) (blkOk_by (own := [("_law_x", 11)]) (N := N_law) (sc := defScope s_law) (by decide +kernel)) (fun _ _ _ _ _ => (dg_name (i := 11) sc_law.nd)) (fun _ _ _ _ _ => (dts_one (dt_not (dt_tru (de_call (ok__law_is_number T D__law_is_number) (hr.mono (by decide)) D__law_is_number.g D__law_is_number.F.kp D__law_is_number.b (da_cons (de_im (pv 11)) da_nil)))))) (fun _ _ _ _ _ => (de_im (pv 11)))) (de_lst da_nil)) (dw_or1 (dt_cmp (od_ne (u4 hr)) (de_bor (pv 7)) (de_im (pv 8))))))) (dss_one (ds_ret de_bl)) dss_nil) (dss_cons (ds_expr (de_app (pv 7) (de_ix (de_im (pv 5)) de_int))) (dss_one (ds_if (dt_w (dw_or (dt_cmp (od_ne (u4 hr)) (de_lo (de_callK0 (perm := [1, 0]) (ok_winning_moves T D_winning_moves) (hr.mono (by decide)) D_winning_moves.g D_winning_moves.F.kp (kb_winning_moves_1_0 D_winning_moves.F) (dk_cons (de_im (pv 5)) (dk_cons (de_im (pv 2)) dk_nil)))) (de_im (pv 8))) (dw_or1 (dt_cmp (od_ne (u4 hr)) (de_callK0 (perm := [1, 0]) (ok_mover_wins T D_mover_wins) (hr.mono (by decide)) D_mover_wins.g D_mover_wins.F.kp (kb_mover_wins_1_0 D_mover_wins.F) (dk_cons (de_im (pv 5)) (dk_cons (de_im (pv 2)) dk_nil))) (de_cmp (od_ne (u4 hr)) (de_im (pv 8)) (de_lst da_nil)))))) (dss_one (ds_ret de_bl)) dss_nil))))))))) (dss_cons (ds_set (i := 9) (de_lo (de_call (ok_winning_starts T D_winning_starts) (hr.mono (by decide)) D_winning_starts.g D_winning_starts.F.kp D_winning_starts.b (da_cons (de_im (pv 2)) da_nil))) sc_law.nd) (dss_cons (ds_if (dt_w (dw_or (dt_not (dt_tru (de_isi (Ty := "list") (by decide +kernel) (de_bor (pv 9)) T.n_isinstance T.n_list))) (dw_or1 (dt_cmp (od_ne (u4 hr)) (de_lc (own := [("_law_x", 11)]) rfl sc_law.nd (di_seq (de_bor (pv 9))) (blkOk_by (own := [("_law_x", 11)]) (N := N_law) (sc := defScope s_law) (by decide +kernel)) (fun _ _ _ _ _ => (dg_name (i := 11) sc_law.nd)) (fun _ _ _ _ _ => (dts_one (dt_not (dt_tru (de_call (ok__law_is_number T D__law_is_number) (hr.mono (by decide)) D__law_is_number.g D__law_is_number.F.kp D__law_is_number.b (da_cons (de_im (pv 11)) da_nil)))))) (fun _ _ _ _ _ => (de_im (pv 11)))) (de_lst da_nil))))) (dss_one (ds_ret de_bl)) dss_nil) (dss_cons (ds_if (dt_cmp (od_ne (u4 hr)) (de_bor (pv 9)) (de_lc (own := [("_law_x", 11)]) rfl sc_law.nd (di_rng1 (de_ix (de_im (pv 2)) de_int) T.n_range) (blkOk_by (own := [("_law_x", 11)]) (N := N_law) (sc := defScope s_law) (by decide +kernel)) (fun _ _ _ _ _ => (dg_name (i := 11) sc_law.nd)) (fun _ _ _ _ _ => (dts_one (dt_not (dt_tru (de_call (ok__law_wins T D__law_wins) (hr.mono (by decide)) D__law_wins.g D__law_wins.F.kp D__law_wins.b (da_cons (de_im (pv 2)) (da_cons (de_tup (da_cons (de_im (pv 11)) da_nil)) (da_bor (pv 3) da_nil)))))))) (fun _ _ _ _ _ => (de_im (pv 11))))) (dss_one (ds_ret de_bl)) dss_nil) (dss_cons (ds_set (i := 10) (de_callT cd_tuple (de_bor (pv 9)) T.n_tuple) sc_law.nd) (dss_cons (ds_expr (de_app (pv 9) de_int)) (dss_one (ds_ret (de_cmp (od_eq (u4 hr)) (de_callT cd_tuple (de_lo (de_callK0 (perm := [0]) (ok_winning_starts T D_winning_starts) (hr.mono (by decide)) D_winning_starts.g D_winning_starts.F.kp (kb_winning_starts_0 D_winning_starts.F) (dk_cons (de_im (pv 2)) dk_nil))) T.n_tuple) (de_im (pv 10))))))))))))))))
end
theorem txt_mk {K : Fr} {h : Heap} {mg : Str → Option Value} (X : K.In h) (G : h.Ns mainGlobals mg)
    {f0 : Addr} {od0 an0 : Option Addr} {sl0 : Array (Option Value)} {oc0 kV0 dc0 pm0 cd0 ct0 : Value}
    {f1 : Addr} {od1 an1 : Option Addr} {sl1 : Array (Option Value)} {oc1 kV1 dc1 pm1 cd1 ct1 : Value}
    {f2 : Addr} {od2 an2 : Option Addr} {sl2 : Array (Option Value)} {oc2 kV2 dc2 pm2 cd2 ct2 : Value}
    {f3 : Addr} {od3 an3 : Option Addr} {sl3 : Array (Option Value)} {oc3 kV3 dc3 pm3 cd3 ct3 : Value}
    {f4 : Addr} {od4 an4 : Option Addr} {sl4 : Array (Option Value)} {oc4 kV4 dc4 pm4 cd4 ct4 : Value}
    {f5 : Addr} {od5 an5 : Option Addr} {sl5 : Array (Option Value)} {oc5 kV5 dc5 pm5 cd5 ct5 : Value}
    {f6 : Addr} {od6 an6 : Option Addr} {sl6 : Array (Option Value)} {oc6 kV6 dc6 pm6 cd6 ct6 : Value}
    {f7 : Addr} {od7 an7 : Option Addr} {sl7 : Array (Option Value)} {oc7 kV7 dc7 pm7 cd7 ct7 : Value}
    {f8 : Addr} {od8 an8 : Option Addr} {sl8 : Array (Option Value)} {oc8 kV8 dc8 pm8 cd8 ct8 : Value}
    {f9 : Addr} {od9 an9 : Option Addr} {sl9 : Array (Option Value)} {oc9 kV9 dc9 pm9 cd9 ct9 : Value}
    {f10 : Addr} {od10 an10 : Option Addr} {sl10 : Array (Option Value)} {oc10 kV10 dc10 pm10 cd10 ct10 : Value}
    {f11 : Addr} {od11 an11 : Option Addr} {sl11 : Array (Option Value)} {oc11 kV11 dc11 pm11 cd11 ct11 : Value}
    {f12 : Addr} {od12 an12 : Option Addr} {sl12 : Array (Option Value)} {oc12 kV12 dc12 pm12 cd12 ct12 : Value}
    {f13 : Addr} {od13 an13 : Option Addr} {sl13 : Array (Option Value)} {oc13 kV13 dc13 pm13 cd13 ct13 : Value}
    {f14 : Addr} {od14 an14 : Option Addr} {sl14 : Array (Option Value)} {oc14 kV14 dc14 pm14 cd14 ct14 : Value}
    {f15 : Addr} {od15 an15 : Option Addr} {sl15 : Array (Option Value)} {oc15 kV15 dc15 pm15 cd15 ct15 : Value}
    {f16 : Addr} {od16 an16 : Option Addr} {sl16 : Array (Option Value)} {oc16 kV16 dc16 pm16 cd16 ct16 : Value}
    {f17 : Addr} {od17 an17 : Option Addr} {sl17 : Array (Option Value)} {oc17 kV17 dc17 pm17 cd17 ct17 : Value}
    {f18 : Addr} {od18 an18 : Option Addr} {sl18 : Array (Option Value)} {oc18 kV18 dc18 pm18 cd18 ct18 : Value}
    {f19 : Addr} {od19 an19 : Option Addr} {sl19 : Array (Option Value)} {oc19 kV19 dc19 pm19 cd19 ct19 : Value}
    {f20 : Addr} {od20 an20 : Option Addr} {sl20 : Array (Option Value)} {oc20 kV20 dc20 pm20 cd20 ct20 : Value}
    {f21 : Addr} {od21 an21 : Option Addr} {sl21 : Array (Option Value)} {oc21 kV21 dc21 pm21 cd21 ct21 : Value}
    {f22 : Addr} {od22 an22 : Option Addr} {sl22 : Array (Option Value)} {oc22 kV22 dc22 pm22 cd22 ct22 : Value}
    {f23 : Addr} {od23 an23 : Option Addr} {sl23 : Array (Option Value)} {oc23 kV23 dc23 pm23 cd23 ct23 : Value}
    {f24 : Addr} {od24 an24 : Option Addr} {sl24 : Array (Option Value)} {oc24 kV24 dc24 pm24 cd24 ct24 : Value}
    {f25 : Addr} {od25 an25 : Option Addr} {sl25 : Array (Option Value)} {oc25 kV25 dc25 pm25 cd25 ct25 : Value}
    {f26 : Addr} {od26 an26 : Option Addr} {sl26 : Array (Option Value)} {oc26 kV26 dc26 pm26 cd26 ct26 : Value}
    {t_MOST_PLACES : Tok}
    (a0 : PySem.W.nsIn K mainGlobals "_law_spring" = some (some (.ref f0))) (l0 : K.lookup f0 = some ⟨oc0, od0, .func (PySem.W.fnOf "_law_spring" "_law_spring" (defArgs s__law_spring) (defBody s__law_spring) (defScope s__law_spring) .none kV0 dc0 pm0 an0 cd0 ct0), sl0⟩) (e0 : PySem.W.codeIn K cd0 "_law_spring" = true) (k0 : PySem.W.keepIn K (.ref f0) = true)
    (a1 : PySem.W.nsIn K mainGlobals "_law_pick" = some (some (.ref f1))) (l1 : K.lookup f1 = some ⟨oc1, od1, .func (PySem.W.fnOf "_law_pick" "_law_pick" (defArgs s__law_pick) (defBody s__law_pick) (defScope s__law_pick) .none kV1 dc1 pm1 an1 cd1 ct1), sl1⟩) (e1 : PySem.W.codeIn K cd1 "_law_pick" = true) (k1 : PySem.W.keepIn K (.ref f1) = true)
    (a2 : PySem.W.nsIn K mainGlobals "_law_web" = some (some (.ref f2))) (l2 : K.lookup f2 = some ⟨oc2, od2, .func (PySem.W.fnOf "_law_web" "_law_web" (defArgs s__law_web) (defBody s__law_web) (defScope s__law_web) .none kV2 dc2 pm2 an2 cd2 ct2), sl2⟩) (e2 : PySem.W.codeIn K cd2 "_law_web" = true) (k2 : PySem.W.keepIn K (.ref f2) = true)
    (a3 : PySem.W.nsIn K mainGlobals "is_tuple_of" = some (some (.ref f3))) (l3 : K.lookup f3 = some ⟨oc3, od3, .func (PySem.W.fnOf "is_tuple_of" "is_tuple_of" (defArgs s_is_tuple_of) (defBody s_is_tuple_of) (defScope s_is_tuple_of) .none kV3 dc3 pm3 an3 cd3 ct3), sl3⟩) (e3 : PySem.W.codeIn K cd3 "is_tuple_of" = true) (k3 : PySem.W.keepIn K (.ref f3) = true)
    (a4 : PySem.W.nsIn K mainGlobals "is_integer" = some (some (.ref f4))) (l4 : K.lookup f4 = some ⟨oc4, od4, .func (PySem.W.fnOf "is_integer" "is_integer" (defArgs s_is_integer) (defBody s_is_integer) (defScope s_is_integer) .none kV4 dc4 pm4 an4 cd4 ct4), sl4⟩) (e4 : PySem.W.codeIn K cd4 "is_integer" = true) (k4 : PySem.W.keepIn K (.ref f4) = true)
    (a5 : PySem.W.nsIn K mainGlobals "is_between" = some (some (.ref f5))) (l5 : K.lookup f5 = some ⟨oc5, od5, .func (PySem.W.fnOf "is_between" "is_between" (defArgs s_is_between) (defBody s_is_between) (defScope s_is_between) .none kV5 dc5 pm5 an5 cd5 ct5), sl5⟩) (e5 : PySem.W.codeIn K cd5 "is_between" = true) (k5 : PySem.W.keepIn K (.ref f5) = true)
    (a6 : PySem.W.nsIn K mainGlobals "is_tie_of" = some (some (.ref f6))) (l6 : K.lookup f6 = some ⟨oc6, od6, .func (PySem.W.fnOf "is_tie_of" "is_tie_of" (defArgs s_is_tie_of) (defBody s_is_tie_of) (defScope s_is_tie_of) .none kV6 dc6 pm6 an6 cd6 ct6), sl6⟩) (e6 : PySem.W.codeIn K cd6 "is_tie_of" = true) (k6 : PySem.W.keepIn K (.ref f6) = true)
    (a7 : PySem.W.nsIn K mainGlobals "is_web" = some (some (.ref f7))) (l7 : K.lookup f7 = some ⟨oc7, od7, .func (PySem.W.fnOf "is_web" "is_web" (defArgs s_is_web) (defBody s_is_web) (defScope s_is_web) .none kV7 dc7 pm7 an7 cd7 ct7), sl7⟩) (e7 : PySem.W.codeIn K cd7 "is_web" = true) (k7 : PySem.W.keepIn K (.ref f7) = true)
    (a8 : PySem.W.nsIn K mainGlobals "check_web" = some (some (.ref f8))) (l8 : K.lookup f8 = some ⟨oc8, od8, .func (PySem.W.fnOf "check_web" "check_web" (defArgs s_check_web) (defBody s_check_web) (defScope s_check_web) .none kV8 dc8 pm8 an8 cd8 ct8), sl8⟩) (e8 : PySem.W.codeIn K cd8 "check_web" = true) (k8 : PySem.W.keepIn K (.ref f8) = true)
    (a9 : PySem.W.nsIn K mainGlobals "neighbour_masks" = some (some (.ref f9))) (l9 : K.lookup f9 = some ⟨oc9, od9, .func (PySem.W.fnOf "neighbour_masks" "neighbour_masks" (defArgs s_neighbour_masks) (defBody s_neighbour_masks) (defScope s_neighbour_masks) .none kV9 dc9 pm9 an9 cd9 ct9), sl9⟩) (e9 : PySem.W.codeIn K cd9 "neighbour_masks" = true) (k9 : PySem.W.keepIn K (.ref f9) = true)
    (a10 : PySem.W.nsIn K mainGlobals "size_table" = some (some (.ref f10))) (l10 : K.lookup f10 = some ⟨oc10, od10, .func (PySem.W.fnOf "size_table" "size_table" (defArgs s_size_table) (defBody s_size_table) (defScope s_size_table) .none kV10 dc10 pm10 an10 cd10 ct10), sl10⟩) (e10 : PySem.W.codeIn K cd10 "size_table" = true) (k10 : PySem.W.keepIn K (.ref f10) = true)
    (a11 : PySem.W.nsIn K mainGlobals "whole_mask" = some (some (.ref f11))) (l11 : K.lookup f11 = some ⟨oc11, od11, .func (PySem.W.fnOf "whole_mask" "whole_mask" (defArgs s_whole_mask) (defBody s_whole_mask) (defScope s_whole_mask) .none kV11 dc11 pm11 an11 cd11 ct11), sl11⟩) (e11 : PySem.W.codeIn K cd11 "whole_mask" = true) (k11 : PySem.W.keepIn K (.ref f11) = true)
    (a12 : PySem.W.nsIn K mainGlobals "winning_starts" = some (some (.ref f12))) (l12 : K.lookup f12 = some ⟨oc12, od12, .func (PySem.W.fnOf "winning_starts" "winning_starts" (defArgs s_winning_starts) (defBody s_winning_starts) (defScope s_winning_starts) .none kV12 dc12 pm12 an12 cd12 ct12), sl12⟩) (e12 : PySem.W.codeIn K cd12 "winning_starts" = true) (k12 : PySem.W.keepIn K (.ref f12) = true)
    (a13 : PySem.W.nsIn K mainGlobals "tie_between" = some (some (.ref f13))) (l13 : K.lookup f13 = some ⟨oc13, od13, .func (PySem.W.fnOf "tie_between" "tie_between" (defArgs s_tie_between) (defBody s_tie_between) (defScope s_tie_between) .none kV13 dc13 pm13 an13 cd13 ct13), sl13⟩) (e13 : PySem.W.codeIn K cd13 "tie_between" = true) (k13 : PySem.W.keepIn K (.ref f13) = true)
    (a14 : PySem.W.nsIn K mainGlobals "is_walk" = some (some (.ref f14))) (l14 : K.lookup f14 = some ⟨oc14, od14, .func (PySem.W.fnOf "is_walk" "is_walk" (defArgs s_is_walk) (defBody s_is_walk) (defScope s_is_walk) .none kV14 dc14 pm14 an14 cd14 ct14), sl14⟩) (e14 : PySem.W.codeIn K cd14 "is_walk" = true) (k14 : PySem.W.keepIn K (.ref f14) = true)
    (a15 : PySem.W.nsIn K mainGlobals "check_walk" = some (some (.ref f15))) (l15 : K.lookup f15 = some ⟨oc15, od15, .func (PySem.W.fnOf "check_walk" "check_walk" (defArgs s_check_walk) (defBody s_check_walk) (defScope s_check_walk) .none kV15 dc15 pm15 an15 cd15 ct15), sl15⟩) (e15 : PySem.W.codeIn K cd15 "check_walk" = true) (k15 : PySem.W.keepIn K (.ref f15) = true)
    (a16 : PySem.W.nsIn K mainGlobals "mask_of" = some (some (.ref f16))) (l16 : K.lookup f16 = some ⟨oc16, od16, .func (PySem.W.fnOf "mask_of" "mask_of" (defArgs s_mask_of) (defBody s_mask_of) (defScope s_mask_of) .none kV16 dc16 pm16 an16 cd16 ct16), sl16⟩) (e16 : PySem.W.codeIn K cd16 "mask_of" = true) (k16 : PySem.W.keepIn K (.ref f16) = true)
    (a17 : PySem.W.nsIn K mainGlobals "outside" = some (some (.ref f17))) (l17 : K.lookup f17 = some ⟨oc17, od17, .func (PySem.W.fnOf "outside" "outside" (defArgs s_outside) (defBody s_outside) (defScope s_outside) .none kV17 dc17 pm17 an17 cd17 ct17), sl17⟩) (e17 : PySem.W.codeIn K cd17 "outside" = true) (k17 : PySem.W.keepIn K (.ref f17) = true)
    (a18 : PySem.W.nsIn K mainGlobals "mover_wins" = some (some (.ref f18))) (l18 : K.lookup f18 = some ⟨oc18, od18, .func (PySem.W.fnOf "mover_wins" "mover_wins" (defArgs s_mover_wins) (defBody s_mover_wins) (defScope s_mover_wins) .none kV18 dc18 pm18 an18 cd18 ct18), sl18⟩) (e18 : PySem.W.codeIn K cd18 "mover_wins" = true) (k18 : PySem.W.keepIn K (.ref f18) = true)
    (a19 : PySem.W.nsIn K mainGlobals "lot_by" = some (some (.ref f19))) (l19 : K.lookup f19 = some ⟨oc19, od19, .func (PySem.W.fnOf "lot_by" "lot_by" (defArgs s_lot_by) (defBody s_lot_by) (defScope s_lot_by) .none kV19 dc19 pm19 an19 cd19 ct19), sl19⟩) (e19 : PySem.W.codeIn K cd19 "lot_by" = true) (k19 : PySem.W.keepIn K (.ref f19) = true)
    (a20 : PySem.W.nsIn K mainGlobals "winning_moves" = some (some (.ref f20))) (l20 : K.lookup f20 = some ⟨oc20, od20, .func (PySem.W.fnOf "winning_moves" "winning_moves" (defArgs s_winning_moves) (defBody s_winning_moves) (defScope s_winning_moves) .none kV20 dc20 pm20 an20 cd20 ct20), sl20⟩) (e20 : PySem.W.codeIn K cd20 "winning_moves" = true) (k20 : PySem.W.keepIn K (.ref f20) = true)
    (a21 : PySem.W.nsIn K mainGlobals "_law_near" = some (some (.ref f21))) (l21 : K.lookup f21 = some ⟨oc21, od21, .func (PySem.W.fnOf "_law_near" "_law_near" (defArgs s__law_near) (defBody s__law_near) (defScope s__law_near) .none kV21 dc21 pm21 an21 cd21 ct21), sl21⟩) (e21 : PySem.W.codeIn K cd21 "_law_near" = true) (k21 : PySem.W.keepIn K (.ref f21) = true)
    (a22 : PySem.W.nsIn K mainGlobals "_law_wins" = some (some (.ref f22))) (l22 : K.lookup f22 = some ⟨oc22, od22, .func (PySem.W.fnOf "_law_wins" "_law_wins" (defArgs s__law_wins) (defBody s__law_wins) (defScope s__law_wins) .none kV22 dc22 pm22 an22 cd22 ct22), sl22⟩) (e22 : PySem.W.codeIn K cd22 "_law_wins" = true) (k22 : PySem.W.keepIn K (.ref f22) = true)
    (a23 : PySem.W.nsIn K mainGlobals "_law_moves" = some (some (.ref f23))) (l23 : K.lookup f23 = some ⟨oc23, od23, .func (PySem.W.fnOf "_law_moves" "_law_moves" (defArgs s__law_moves) (defBody s__law_moves) (defScope s__law_moves) .none kV23 dc23 pm23 an23 cd23 ct23), sl23⟩) (e23 : PySem.W.codeIn K cd23 "_law_moves" = true) (k23 : PySem.W.keepIn K (.ref f23) = true)
    (a24 : PySem.W.nsIn K mainGlobals "_law_walk" = some (some (.ref f24))) (l24 : K.lookup f24 = some ⟨oc24, od24, .func (PySem.W.fnOf "_law_walk" "_law_walk" (defArgs s__law_walk) (defBody s__law_walk) (defScope s__law_walk) .none kV24 dc24 pm24 an24 cd24 ct24), sl24⟩) (e24 : PySem.W.codeIn K cd24 "_law_walk" = true) (k24 : PySem.W.keepIn K (.ref f24) = true)
    (a25 : PySem.W.nsIn K mainGlobals "_law_is_number" = some (some (.ref f25))) (l25 : K.lookup f25 = some ⟨oc25, od25, .func (PySem.W.fnOf "_law_is_number" "_law_is_number" (defArgs s__law_is_number) (defBody s__law_is_number) (defScope s__law_is_number) .none kV25 dc25 pm25 an25 cd25 ct25), sl25⟩) (e25 : PySem.W.codeIn K cd25 "_law_is_number" = true) (k25 : PySem.W.keepIn K (.ref f25) = true)
    (a26 : PySem.W.nsIn K mainGlobals "law" = some (some (.ref f26))) (l26 : K.lookup f26 = some ⟨oc26, od26, .func (PySem.W.fnOf "law" "law" (defArgs s_law) (defBody s_law) (defScope s_law) .none kV26 dc26 pm26 an26 cd26 ct26), sl26⟩) (e26 : PySem.W.codeIn K cd26 "law" = true) (k26 : PySem.W.keepIn K (.ref f26) = true)
    (z_abs : PySem.W.nsIn K mainGlobals "abs" = some none)
    (z_all : PySem.W.nsIn K mainGlobals "all" = some none)
    (z_bool : PySem.W.nsIn K mainGlobals "bool" = some none)
    (z_int : PySem.W.nsIn K mainGlobals "int" = some none)
    (z_isinstance : PySem.W.nsIn K mainGlobals "isinstance" = some none)
    (z_len : PySem.W.nsIn K mainGlobals "len" = some none)
    (z_list : PySem.W.nsIn K mainGlobals "list" = some none)
    (z_max : PySem.W.nsIn K mainGlobals "max" = some none)
    (z_min : PySem.W.nsIn K mainGlobals "min" = some none)
    (z_range : PySem.W.nsIn K mainGlobals "range" = some none)
    (z_set : PySem.W.nsIn K mainGlobals "set" = some none)
    (z_sorted : PySem.W.nsIn K mainGlobals "sorted" = some none)
    (z_sum : PySem.W.nsIn K mainGlobals "sum" = some none)
    (z_tuple : PySem.W.nsIn K mainGlobals "tuple" = some none)
    (q_MOST_PLACES : PySem.W.nsIn K mainGlobals "MOST_PLACES" = some (some (.int 12 t_MOST_PLACES))) : Txt K mg where
  d__law_spring := ⟨f0, _, PySem.W.mg_of X G a0, fun_mk (st := s__law_spring) l0 e0 k0, (fun_mk (st := s__law_spring) l0 e0 k0).binds (ps := ["_law_script"]) fun _ _ _ _ _ _ us hl => match us, hl with | [_], _ => rfl⟩
  d__law_pick := ⟨f1, _, PySem.W.mg_of X G a1, fun_mk (st := s__law_pick) l1 e1 k1, (fun_mk (st := s__law_pick) l1 e1 k1).binds (ps := ["_law_spring_here", "_law_many"]) fun _ _ _ _ _ _ us hl => match us, hl with | [_, _], _ => rfl⟩
  d__law_web := ⟨f2, _, PySem.W.mg_of X G a2, fun_mk (st := s__law_web) l2 e2 k2, (fun_mk (st := s__law_web) l2 e2 k2).binds (ps := ["_law_spring_here", "_law_many"]) fun _ _ _ _ _ _ us hl => match us, hl with | [_, _], _ => rfl⟩
  d_is_tuple_of := ⟨f3, _, PySem.W.mg_of X G a3, fun_mk (st := s_is_tuple_of) l3 e3 k3, (fun_mk (st := s_is_tuple_of) l3 e3 k3).binds (ps := ["many", "value"]) fun _ _ _ _ _ _ us hl => match us, hl with | [_, _], _ => rfl⟩
  d_is_integer := ⟨f4, _, PySem.W.mg_of X G a4, fun_mk (st := s_is_integer) l4 e4 k4, (fun_mk (st := s_is_integer) l4 e4 k4).binds (ps := ["value"]) fun _ _ _ _ _ _ us hl => match us, hl with | [_], _ => rfl⟩
  d_is_between := ⟨f5, _, PySem.W.mg_of X G a5, fun_mk (st := s_is_between) l5 e5 k5, (fun_mk (st := s_is_between) l5 e5 k5).binds (ps := ["low", "value", "high"]) fun _ _ _ _ _ _ us hl => match us, hl with | [_, _, _], _ => rfl⟩
  d_is_tie_of := ⟨f6, _, PySem.W.mg_of X G a6, fun_mk (st := s_is_tie_of) l6 e6 k6, (fun_mk (st := s_is_tie_of) l6 e6 k6).binds (ps := ["many", "value"]) fun _ _ _ _ _ _ us hl => match us, hl with | [_, _], _ => rfl⟩
  d_is_web := ⟨f7, _, PySem.W.mg_of X G a7, fun_mk (st := s_is_web) l7 e7 k7, (fun_mk (st := s_is_web) l7 e7 k7).binds (ps := ["value"]) fun _ _ _ _ _ _ us hl => match us, hl with | [_], _ => rfl⟩
  d_check_web := ⟨f8, _, PySem.W.mg_of X G a8, fun_mk (st := s_check_web) l8 e8 k8, (fun_mk (st := s_check_web) l8 e8 k8).binds (ps := ["value"]) fun _ _ _ _ _ _ us hl => match us, hl with | [_], _ => rfl⟩
  d_neighbour_masks := ⟨f9, _, PySem.W.mg_of X G a9, fun_mk (st := s_neighbour_masks) l9 e9 k9, (fun_mk (st := s_neighbour_masks) l9 e9 k9).binds (ps := ["web"]) fun _ _ _ _ _ _ us hl => match us, hl with | [_], _ => rfl⟩
  d_size_table := ⟨f10, _, PySem.W.mg_of X G a10, fun_mk (st := s_size_table) l10 e10 k10, (fun_mk (st := s_size_table) l10 e10 k10).binds (ps := ["web"]) fun _ _ _ _ _ _ us hl => match us, hl with | [_], _ => rfl⟩
  d_whole_mask := ⟨f11, _, PySem.W.mg_of X G a11, fun_mk (st := s_whole_mask) l11 e11 k11, (fun_mk (st := s_whole_mask) l11 e11 k11).binds (ps := ["web"]) fun _ _ _ _ _ _ us hl => match us, hl with | [_], _ => rfl⟩
  d_winning_starts := ⟨f12, _, PySem.W.mg_of X G a12, fun_mk (st := s_winning_starts) l12 e12 k12, (fun_mk (st := s_winning_starts) l12 e12 k12).binds (ps := ["web"]) fun _ _ _ _ _ _ us hl => match us, hl with | [_], _ => rfl⟩
  d_tie_between := ⟨f13, _, PySem.W.mg_of X G a13, fun_mk (st := s_tie_between) l13 e13 k13, (fun_mk (st := s_tie_between) l13 e13 k13).binds (ps := ["x", "y"]) fun _ _ _ _ _ _ us hl => match us, hl with | [_, _], _ => rfl⟩
  d_is_walk := ⟨f14, _, PySem.W.mg_of X G a14, fun_mk (st := s_is_walk) l14 e14 k14, (fun_mk (st := s_is_walk) l14 e14 k14).binds (ps := ["web", "value"]) fun _ _ _ _ _ _ us hl => match us, hl with | [_, _], _ => rfl⟩
  d_check_walk := ⟨f15, _, PySem.W.mg_of X G a15, fun_mk (st := s_check_walk) l15 e15 k15, (fun_mk (st := s_check_walk) l15 e15 k15).binds (ps := ["web", "value"]) fun _ _ _ _ _ _ us hl => match us, hl with | [_, _], _ => rfl⟩
  d_mask_of := ⟨f16, _, PySem.W.mg_of X G a16, fun_mk (st := s_mask_of) l16 e16 k16, (fun_mk (st := s_mask_of) l16 e16 k16).binds (ps := ["places"]) fun _ _ _ _ _ _ us hl => match us, hl with | [_], _ => rfl⟩
  d_outside := ⟨f17, _, PySem.W.mg_of X G a17, fun_mk (st := s_outside) l17 e17 k17, (fun_mk (st := s_outside) l17 e17 k17).binds (ps := ["web", "walk"]) fun _ _ _ _ _ _ us hl => match us, hl with | [_, _], _ => rfl⟩
  d_mover_wins := ⟨f18, _, PySem.W.mg_of X G a18, fun_mk (st := s_mover_wins) l18 e18 k18, (fun_mk (st := s_mover_wins) l18 e18 k18).binds (ps := ["web", "walk"]) fun _ _ _ _ _ _ us hl => match us, hl with | [_, _], _ => rfl⟩
  d_lot_by := ⟨f19, _, PySem.W.mg_of X G a19, fun_mk (st := s_lot_by) l19 e19 k19, (fun_mk (st := s_lot_by) l19 e19 k19).binds (ps := ["mask"]) fun _ _ _ _ _ _ us hl => match us, hl with | [_], _ => rfl⟩
  d_winning_moves := ⟨f20, _, PySem.W.mg_of X G a20, fun_mk (st := s_winning_moves) l20 e20 k20, (fun_mk (st := s_winning_moves) l20 e20 k20).binds (ps := ["web", "walk"]) fun _ _ _ _ _ _ us hl => match us, hl with | [_, _], _ => rfl⟩
  d__law_near := ⟨f21, _, PySem.W.mg_of X G a21, fun_mk (st := s__law_near) l21 e21 k21, (fun_mk (st := s__law_near) l21 e21 k21).binds (ps := ["_law_web_here", "_law_place"]) fun _ _ _ _ _ _ us hl => match us, hl with | [_, _], _ => rfl⟩
  d__law_wins := ⟨f22, _, PySem.W.mg_of X G a22, fun_mk (st := s__law_wins) l22 e22 k22, (fun_mk (st := s__law_wins) l22 e22 k22).binds (ps := ["_law_web_here", "_law_walk_here", "_law_known"]) fun _ _ _ _ _ _ us hl => match us, hl with | [_, _, _], _ => rfl⟩
  d__law_moves := ⟨f23, _, PySem.W.mg_of X G a23, fun_mk (st := s__law_moves) l23 e23 k23, (fun_mk (st := s__law_moves) l23 e23 k23).binds (ps := ["_law_web_here", "_law_walk_here", "_law_known"]) fun _ _ _ _ _ _ us hl => match us, hl with | [_, _, _], _ => rfl⟩
  d__law_walk := ⟨f24, _, PySem.W.mg_of X G a24, fun_mk (st := s__law_walk) l24 e24 k24, (fun_mk (st := s__law_walk) l24 e24 k24).binds (ps := ["_law_spring_here", "_law_web_here"]) fun _ _ _ _ _ _ us hl => match us, hl with | [_, _], _ => rfl⟩
  d__law_is_number := ⟨f25, _, PySem.W.mg_of X G a25, fun_mk (st := s__law_is_number) l25 e25 k25, (fun_mk (st := s__law_is_number) l25 e25 k25).binds (ps := ["_law_value"]) fun _ _ _ _ _ _ us hl => match us, hl with | [_], _ => rfl⟩
  d_law := ⟨f26, _, PySem.W.mg_of X G a26, fun_mk (st := s_law) l26 e26 k26, (fun_mk (st := s_law) l26 e26 k26).binds (ps := ["_law_script"]) fun _ _ _ _ _ _ us hl => match us, hl with | [_], _ => rfl⟩
  n_abs := PySem.W.mg_none_of X G z_abs
  n_all := PySem.W.mg_none_of X G z_all
  n_bool := PySem.W.mg_none_of X G z_bool
  n_int := PySem.W.mg_none_of X G z_int
  n_isinstance := PySem.W.mg_none_of X G z_isinstance
  n_len := PySem.W.mg_none_of X G z_len
  n_list := PySem.W.mg_none_of X G z_list
  n_max := PySem.W.mg_none_of X G z_max
  n_min := PySem.W.mg_none_of X G z_min
  n_range := PySem.W.mg_none_of X G z_range
  n_set := PySem.W.mg_none_of X G z_set
  n_sorted := PySem.W.mg_none_of X G z_sorted
  n_sum := PySem.W.mg_none_of X G z_sum
  n_tuple := PySem.W.mg_none_of X G z_tuple
  k_MOST_PLACES := ⟨_, PySem.W.mg_of X G q_MOST_PLACES⟩
end Lw

set_option Elab.async false
set_option linter.all false
set_option maxRecDepth 100000
set_option maxHeartbeats 2000000
namespace Lw
open PySem L2 DL
def sD (a : Int) (cs : List Int) (c : Int) : D := .list [.int a, .list (cs.map .int), .int c]
theorem spring_ok (ns : List Int) : ∃ c, m__law_spring [.list (ns.map .int)] = some (sD 0 ns.reverse c, [.list (ns.map .int)]) := by
  obtain ⟨ρ, h1, h2⟩ := for_all (φ := PyData.int) (gt := ggName 2) (f := sSet 1 (gBin modD (gUn intD (gBin addD (gBin addD (gBin mulI (gVar 1) (gC (.int 37))) (gBin mulI (gVar 2) (gC (.int 3935559000370003845)))) (gC (.int 2691343689449507681)))) (gBin powD (gC (.int 2)) (gC (.int 64)))))
    (fun _ ρ => ∃ c o, ρ = [some (.list (ns.map .int)), some (.int c), o]) ns [some (.list (ns.map .int)), some (.int 11), none] ⟨_, _, rfl⟩ (by
      rintro x r ρ _ ⟨c, o, rfl⟩
      refine ⟨_, rfl, ?_⟩
      simp)
  obtain ⟨c, o, rfl⟩ := h2
  refine ⟨c, ?_⟩
  unfold m__law_spring gf__law_spring
  simp [h1, sD, List.map_reverse]
theorem pick_ok {s : D} (hs : ∃ a cs c, s = sD a cs c) {m : Nat} (h0 : 0 < m) (h1 : m < 1000) : ∃ r s', (∃ a cs c, s' = sD a cs c) ∧ r < m ∧ m__law_pick [s, .int m] = some (.int ((r : Nat) : Int), [s', .int m]) := by
  obtain ⟨a, cs, c, rfl⟩ := hs
  have hm0 : (0 : Int) < m := by omega
  have hm1 : (m : Int) < 18446744073709551616 := by omega
  have hm2 : m < 18446744073709551616 := by omega
  unfold m__law_pick gf__law_pick sD
  by_cases ha : a = 0
  · subst ha
    rcases List.eq_nil_or_concat cs with rfl | ⟨l, z, rfl⟩
    · obtain ⟨r, hr, er⟩ := emod_nat ((c * 2862933555777941757 + 3037000493) % 2 ^ 64 / 2 ^ 31) h0
      refine ⟨r, _, ⟨0, [], (c * 2862933555777941757 + 3037000493) % 2 ^ 64, rfl⟩, hr, ?_⟩
      have hn := ne_nil []
      simp at hn er
      simp [hn, hm0, hm1, h0, hm2, er]
    · obtain ⟨r, hr, er⟩ := emod_nat (if z < 0 then -z else z) h0
      refine ⟨r, _, ⟨(if z < 0 then -z else z) / (m : Int), l, c, rfl⟩, hr, ?_⟩
      have hn : neD (.list (l.map PyData.int ++ [PyData.int z])) (.list []) = some (.bool true) := by
        have := ne_nil (l ++ [z])
        rw [show (l ++ [z]).isEmpty = false by cases l <;> rfl] at this
        simpa using this
      simp [hn, hm0, hm1, h0, hm2, er]
  · by_cases hp : 0 < a
    · obtain ⟨r, hr, er⟩ := emod_nat a h0
      refine ⟨r, _, ⟨a / (m : Int), cs, c, rfl⟩, hr, ?_⟩
      simp [ha, hp, hm0, hm1, h0, hm2, er]
    · obtain ⟨r, hr, er⟩ := emod_nat ((c * 2862933555777941757 + 3037000493) % 2 ^ 64 / 2 ^ 31) h0
      refine ⟨r, _, ⟨a, cs, (c * 2862933555777941757 + 3037000493) % 2 ^ 64, rfl⟩, hr, ?_⟩
      simp at er
      simp [ha, hp, hm0, hm1, h0, hm2, er]
end Lw

set_option Elab.async false
set_option linter.all false
set_option maxRecDepth 100000
set_option maxHeartbeats 2000000
namespace Lw
open PySem L2 DL
def IsSp (s : D) : Prop := ∃ a cs c, s = sD a cs c
def lexlt (p q : Nat × Nat) : Prop := p.1 < q.1 ∨ (p.1 = q.1 ∧ p.2 < q.2)
structure WebOk (n : Nat) (ts : List (Nat × Nat)) : Prop where
  lo : 1 ≤ n
  hi : n ≤ 12
  srt : ts.Pairwise lexlt
  ok : ∀ p ∈ ts, p.1 < p.2 ∧ p.2 < n
  len : ts.length ≤ 144
noncomputable abbrev webB : GS := (sIf (gT (gBin ltD (gCall [some 0, none] m__law_pick (gConsB 0 (gCons (gC (.int 6)) gNil))) (gVar 2))) (sExpr (gApp 3 (gTup (gCons (gVar 4) (gCons (gVar 5) gNil))))) sNil)
theorem web_step {s : D} (hs : IsSp s) (n r1 x y : Nat) (ts : List (Nat × Nat)) (o5 : Option D) (hl : ts.length ≤ 1000000) : ∃ s2, IsSp s2 ∧ 
    (webB [some s, some (.int n), some (.int (1 + (r1 : Int))), some (.list (ts.map pD)), some (.int x), some (.int y)] = some (.nx [some s2, some (.int n), some (.int (1 + (r1 : Int))), some (.list ((ts ++ [(x, y)]).map pD)), some (.int x), some (.int y)]) ∨
     webB [some s, some (.int n), some (.int (1 + (r1 : Int))), some (.list (ts.map pD)), some (.int x), some (.int y)] = some (.nx [some s2, some (.int n), some (.int (1 + (r1 : Int))), some (.list (ts.map pD)), some (.int x), some (.int y)])) := by
  obtain ⟨r2, s2, hs2, hr2, e2⟩ := pick_ok hs (m := 6) (by omega) (by omega)
  simp at e2
  refine ⟨s2, hs2, ?_⟩
  by_cases hd : (r2 : Int) < 1 + (r1 : Int)
  · left
    simp [e2, hd, hl, pD]
  · right
    simp [e2, hd]
theorem web_in {s : D} (hs : IsSp s) (n r1 x : Nat) (ts : List (Nat × Nat)) (o5 : Option D) (hx : x < n) (hn : n ≤ 12) (w1 : ts.Pairwise lexlt) (w2 : ∀ p ∈ ts, p.1 < p.2 ∧ p.2 < n ∧ p.1 < x) (w3 : ts.length ≤ 12 * x) :
    ∃ (s2 : D) (ts2 : List (Nat × Nat)) (o52 : Option D), IsSp s2 ∧ sForL (ggName 5) webB (rngL ((x + 1 : Nat) : Int) (n - (x + 1))) [some s, some (.int n), some (.int (1 + (r1 : Int))), some (.list (ts.map pD)), some (.int x), o5] = some (.nx [some s2, some (.int n), some (.int (1 + (r1 : Int))), some (.list (ts2.map pD)), some (.int x), o52]) ∧ 
      ts2.Pairwise lexlt ∧ (∀ p ∈ ts2, p.1 < p.2 ∧ p.2 < n ∧ p.1 < x + 1) ∧ ts2.length ≤ 12 * (x + 1) := by
  obtain ⟨ρ2, q1, q2⟩ := for_rng (gt := ggName 5) (f := webB) (x + 1) (n - (x + 1))
        (fun y ρ => ∃ s ts o5, IsSp s ∧ ρ = [some s, some (.int n), some (.int (1 + (r1 : Int))), some (.list (ts.map pD)), some (.int x), o5] ∧ ts.Pairwise lexlt ∧ (∀ p ∈ ts, p.1 < p.2 ∧ p.2 < n ∧ (p.1 < x ∨ (p.1 = x ∧ p.2 < y))) ∧ ts.length ≤ 12 * x + (y - (x + 1)))
        [some s, some (.int n), some (.int (1 + (r1 : Int))), some (.list (ts.map pD)), some (.int x), o5] ⟨s, ts, o5, hs, rfl, w1, fun p hp => ⟨(w2 p hp).1, (w2 p hp).2.1, .inl (w2 p hp).2.2⟩, by omega⟩ (by
          rintro y ρ hy1 hy2 ⟨s, ts, o5, hs, rfl, w1, w2, w3⟩
          obtain ⟨s2, hs2, e | e⟩ := web_step hs n r1 x y ts o5 (by omega)
          · refine ⟨_, rfl, _, e, s2, ts ++ [(x, y)], some (.int y), hs2, rfl, ?_, ?_, by simp; omega⟩
            · refine List.pairwise_append.mpr ⟨w1, by simp, fun p hp q hq => ?_⟩
              have : q = (x, y) := by simpa using hq
              subst this
              rcases (w2 p hp).2.2 with z | z
              · exact .inl z
              · exact .inr z
            · intro p hp
              rcases List.mem_append.mp hp with hp | hp
              · have := w2 _ hp
                omega
              · have : p = (x, y) := by simpa using hp
                cases this
                simp
                omega
          · refine ⟨_, rfl, _, e, s2, ts, some (.int y), hs2, rfl, w1, fun p hp => ?_, by omega⟩
            have := w2 _ hp
            omega)
  obtain ⟨s2, ts2, o52, hs2, rfl, w12, w22, w32⟩ := q2
  exact ⟨s2, ts2, o52, hs2, q1, w12, fun p hp => by have := w22 _ hp; omega, by omega⟩
noncomputable abbrev webO : GS := sFor (giR2 (gBin addD (gVar 4) (gC (.int 1))) (gVar 1)) (ggName 5) webB
theorem web_out {s : D} (hs : IsSp s) (n r1 : Nat) (hn : n ≤ 12) : ∃ (s2 : D) (ts : List (Nat × Nat)) (o4 o5 : Option D), IsSp s2 ∧ sForL (ggName 4) webO ((List.range n).map nD) [some s, some (.int n), some (.int (1 + (r1 : Int))), some (.list []), none, none] = some (.nx [some s2, some (.int n), some (.int (1 + (r1 : Int))), some (.list (ts.map pD)), o4, o5]) ∧ ts.Pairwise lexlt ∧ (∀ p ∈ ts, p.1 < p.2 ∧ p.2 < n) ∧ ts.length ≤ 144 := by
  obtain ⟨ρ, q1, q2⟩ := for_rng0 (gt := ggName 4) (f := webO) n
    (fun x ρ => ∃ s ts o4 o5, IsSp s ∧ ρ = [some s, some (.int n), some (.int (1 + (r1 : Int))), some (.list (ts.map pD)), o4, o5] ∧ ts.Pairwise lexlt ∧ (∀ p ∈ ts, p.1 < p.2 ∧ p.2 < n ∧ p.1 < x) ∧ ts.length ≤ 12 * x)
    [some s, some (.int n), some (.int (1 + (r1 : Int))), some (.list []), none, none] ⟨s, [], none, none, hs, rfl, .nil, by simp, by simp⟩ (by
      rintro x ρ hx ⟨s, ts, o4, o5, hs, rfl, w1, w2, w3⟩
      obtain ⟨s2, ts2, o52, hs2, q1, w12, w22, w32⟩ := web_in hs n r1 x ts o5 (by omega) hn w1 w2 w3
      have hb := rngOk_n1 (n := x) (by omega)
      have hn := rngOk_n (n := n) (by omega)
      refine ⟨_, rfl, .nx [some s2, some (.int n), some (.int (1 + (r1 : Int))), some (.list (ts2.map pD)), some (.int x), o52], ?_, s2, ts2, some (.int x), o52, hs2, rfl, w12, w22, w32⟩
      simp at q1
      simp [hb, hn, rng2, q1])
  obtain ⟨s2, ts, o4, o5, hs2, rfl, w1, w2, w3⟩ := q2
  exact ⟨s2, ts, o4, o5, hs2, q1, w1, fun p hp => ⟨(w2 p hp).1, (w2 p hp).2.1⟩, by omega⟩
theorem web_ok {s : D} (hs : IsSp s) {n : Nat} (h0 : 1 ≤ n) (h1 : n ≤ 12) : ∃ ts s', IsSp s' ∧ WebOk n ts ∧ m__law_web [s, .int n] = some (wD n ts, [s', .int n]) := by
  obtain ⟨r1, s1, hs1, hr1, e1⟩ := pick_ok hs (m := 5) (by omega) (by omega)
  obtain ⟨s2, ts, o4, o5, hs2, q1, w1, w2, w3⟩ := web_out hs1 n r1 h1
  refine ⟨ts, s2, hs2, ⟨h0, h1, w1, w2, w3⟩, ?_⟩
  have hn := rngOk_n (n := n) (by omega)
  unfold m__law_web gf__law_web
  simp at e1
  simp [e1, hn, q1, wD]
end Lw

set_option Elab.async false
set_option linter.all false
set_option maxRecDepth 100000
set_option maxHeartbeats 2000000
namespace Lw
open PySem L2 DL
@[simp] theorem kit_ii : kitB "int" "int" = some true := by decide +kernel
@[simp] theorem kit_ib : kitB "int" "bool" = some false := by decide +kernel
@[simp] theorem kit_tt : kitB "tuple" "tuple" = some true := by decide +kernel
@[simp] theorem kit_bb : kitB "bool" "bool" = some true := by decide +kernel
@[simp] theorem kit_ll : kitB "list" "list" = some true := by decide +kernel
@[simp] theorem ty_i {v : Int} : tyD (.int v) = "int" := rfl
@[simp] theorem ty_b {v : Bool} : tyD (.bool v) = "bool" := rfl
@[simp] theorem ty_t {v : List D} : tyD (.tuple v) = "tuple" := rfl
@[simp] theorem ty_l {v : List D} : tyD (.list v) = "list" := rfl
@[simp] theorem v_gChain {sem sem' : D → D → Option D} {ga gb gd : GE} {ρ : DL.Env} : gChain sem sem' ga gb gd ρ = (ga ρ).bind fun p => (gb p.2).bind fun q => (sem p.1 q.1).bind fun z => (asB z).bind fun k => if k = true then (gd q.2).bind fun r => (sem' q.1 r.1).bind fun w => (asB w).map fun k' => (.bool k', r.2) else some (.bool false, q.2) := rfl
theorem is_integer_ok (v : Int) : m_is_integer [.int v] = some (.bool true, [.int v]) := by
  unfold m_is_integer gf_is_integer
  simp
theorem is_number_ok (v : Int) : m__law_is_number [.int v] = some (.bool true, [.int v]) := by
  unfold m__law_is_number gf__law_is_number
  simp
theorem is_between_ok {lo v hi : Int} (h1 : lo ≤ v) (h2 : v ≤ hi) : m_is_between [.int lo, .int v, .int hi] = some (.bool true, [.int lo, .int v, .int hi]) := by
  unfold m_is_between gf_is_between
  simp [is_integer_ok, h1, h2]
theorem is_tuple_of_ok (k : Nat) {ds : List D} (h : ds.length = k) : m_is_tuple_of [.int k, .tuple ds] = some (.bool true, [.int k, .tuple ds]) := by
  unfold m_is_tuple_of gf_is_tuple_of
  simp [h]
theorem tie_between_ok (x y : Nat) : m_tie_between [.int x, .int y] = some (pD (if x < y then (x, y) else (y, x)), [.int x, .int y]) := by
  unfold m_tie_between gf_tie_between
  by_cases h : x < y
  · simp [h, pD]
  · simp [h, pD]
theorem all_true {α : Type} (l : List α) : allD (.list (l.map fun _ => .bool true)) = some (.bool true) := by
  have : blsOf (l.map fun _ => PyData.bool true) = some (l.map fun _ => true) := by
    induction l with
    | nil => rfl
    | cons x r ih =>
      show (blsOf (r.map fun _ => PyData.bool true)).map _ = _
      rw [ih]
      rfl
  unfold allD
  simp [this]
theorem is_tie_of_ok {n : Nat} {p : Nat × Nat} (h1 : p.1 < p.2) (h2 : p.2 < n) : m_is_tie_of [.int n, pD p] = some (.bool true, [.int n, pD p]) := by
  have e1 := is_tuple_of_ok 2 (ds := [.int p.1, .int p.2]) rfl
  have b1 := is_between_ok (lo := 0) (v := p.1) (hi := (n : Int) - 1) (by omega) (by omega)
  have b2 := is_between_ok (lo := 0) (v := p.2) (hi := (n : Int) - 1) (by omega) (by omega)
  have hl := lc_map0 (own := [2]) (gt := ggName 2) (ge := gCall [none, none, none] m_is_between (gCons (gC (.int 0)) (gCons (gVar 2) (gCons (gBin subD (gVar 0) (gC (.int 1))) gNil)))) (φ := nD) (fun _ => PyData.bool true) [some (.int n), some (pD p), none] [p.1, p.2] (by
    intro x hx
    refine ⟨[some (.int n), some (pD p), some (.int x)], rfl, ?_, rfl⟩
    rcases List.mem_cons.mp hx with rfl | hx
    · simp [b1]
    · have : x = p.2 := by simpa using hx
      subst this
      simp [b2])
  have ha := all_true [p.1, p.2]
  unfold m_is_tie_of gf_is_tie_of
  simp [pD] at hl ha e1
  simp [pD, e1, hl, ha, h1]
theorem lexLt_pr {p q : Nat × Nat} (h : lexlt p q) : ltD (pD p) (pD q) = some (.bool true) := by
  have : HT.lexLt [(p.1 : Int), (p.2 : Int)] [(q.1 : Int), (q.2 : Int)] = true := by
    rw [HT.lexLt_cons, HT.lexLt_cons]
    rcases h with h | ⟨h1, h2⟩
    · rw [if_neg (by omega)]
      simpa using h
    · rw [if_pos (by omega), if_neg (by omega)]
      simpa using h2
  show some (PyData.bool (HT.lexLt [(p.1 : Int), (p.2 : Int)] [(q.1 : Int), (q.2 : Int)])) = _
  rw [this]
theorem is_web_ok {n : Nat} {ts : List (Nat × Nat)} (h : WebOk n ts) : m_is_web [wD n ts] = some (.bool true, [wD n ts]) := by
  have e1 := is_tuple_of_ok 2 (ds := [.int n, .tuple (ts.map pD)]) rfl
  have b1 := is_between_ok (lo := 1) (v := n) (hi := 12) (by have := h.lo; omega) (by have := h.hi; omega)
  have hl := lc_map0 (own := [4]) (gt := ggName 4) (ge := gCall [none, none] m_is_tie_of (gCons (gVar 1) (gCons (gVar 4) gNil))) (φ := pD) (fun _ => PyData.bool true) [some (wD n ts), some (.int n), some (.tuple (ts.map pD)), none, none] ts (by
    intro x hx
    refine ⟨[some (wD n ts), some (.int n), some (.tuple (ts.map pD)), none, some (pD x)], rfl, ?_, rfl⟩
    simp [is_tie_of_ok (h.ok x hx).1 (h.ok x hx).2])
  have hl2 := lc_map0 (own := [3]) (gt := ggName 3) (ge := gBin ltD (gBin ixD (gVar 2) (gVar 3)) (gBin ixD (gVar 2) (gBin addD (gVar 3) (gC (.int 1))))) (φ := nD) (fun _ => PyData.bool true) [some (wD n ts), some (.int n), some (.tuple (ts.map pD)), none, none] (List.range (ts.length - 1)) (by
    intro x hx
    have hx := List.mem_range.mp hx
    refine ⟨[some (wD n ts), some (.int n), some (.tuple (ts.map pD)), some (.int x), none], rfl, ?_, rfl⟩
    have g1 : ts[x]? = some ts[x] := List.getElem?_eq_getElem (by omega)
    have g2 : ts[x + 1]? = some (ts[x + 1]'(by omega)) := List.getElem?_eq_getElem (by omega)
    have a1 : atI (ts.map pD) (x : Int) = some (pD ts[x]) := atm g1
    have a2 : atI (ts.map pD) ((x : Int) + 1) = some (pD (ts[x + 1]'(by omega))) := atm (k := x + 1) g2
    have hlt : lexlt ts[x] (ts[x + 1]'(by omega)) := List.pairwise_iff_getElem.mp h.srt x (x + 1) (by omega) (by omega) (by omega)
    simp only [v_gBin, v_gVar, v_gC, List.getElem?_cons_zero, List.getElem?_cons_succ, Option.bind_some, v_ixT, a1, Option.map_some, v_addI, a2, lexLt_pr hlt])
  have ha := all_true ts
  have ha2 := all_true (List.range (ts.length - 1))
  have hlen := h.len
  have hr : rngOk ((ts.length : Int) - 1) = true := rngOk_i (by omega) (by omega)
  have ht : ((ts.length : Int) - 1).toNat = ts.length - 1 := by omega
  have hl3 : ts.length ≤ 1000000 := by omega
  have hl4 : ts.length - 1 ≤ 1000000 := by omega
  unfold m_is_web gf_is_web
  simp [wD] at hl hl2 ha ha2 e1
  simp [wD, e1, b1, hl, ha, hl2, ha2, hr, ht, hl3, hl4]
theorem check_web_ok {n : Nat} {ts : List (Nat × Nat)} (h : WebOk n ts) : m_check_web [wD n ts] = some (.none, [wD n ts]) := by
  unfold m_check_web gf_check_web
  simp [is_web_ok h]
end Lw

set_option Elab.async false
set_option linter.all false
set_option maxRecDepth 100000
set_option maxHeartbeats 2000000
namespace Lw
open PySem L2 DL
def tied (ts : List (Nat × Nat)) (x y : Nat) : Bool := decide ((min x y, max x y) ∈ ts)
theorem tied_comm {ts : List (Nat × Nat)} {x y : Nat} : tied ts x y = tied ts y x := by
  unfold tied
  rw [Nat.min_comm, Nat.max_comm]
def near (n : Nat) (ts : List (Nat × Nat)) (p : Nat) : List Nat := (List.range n).filter fun x => tied ts x p
theorem near_ok {n : Nat} {ts : List (Nat × Nat)} (h : WebOk n ts) (p : Nat) : m__law_near [wD n ts, .int p] = some (lD (near n ts p), [wD n ts, .int p]) := by
  have hl := lc_map (own := [2]) (gt := ggName 2) (gc := (gT (gBin (inD false) (gTup (gCons (gBin min2D (gVar 2) (gVar 1)) (gCons (gBin max2D (gVar 2) (gVar 1)) gNil))) (gBin ixD (gVar 0) (gC (.int 1)))))) (ge := gVar 2) (φ := nD) (fun x => tied ts x p) nD [some (wD n ts), some (.int p), none] (List.range n) (by
    intro x hx
    refine ⟨[some (wD n ts), some (.int p), some (.int x)], rfl, ?_, fun _ => by simp, rfl⟩
    have hi := v_inP false ts (min x p, max x p)
    obtain ⟨mn, hmn⟩ : ∃ k, k = min x p := ⟨_, rfl⟩
    obtain ⟨mx, hmx⟩ : ∃ k, k = max x p := ⟨_, rfl⟩
    have e1 : (if p < x then (p : Int) else x) = (mn : Int) := by
      rw [hmn, Nat.min_def]; split <;> split <;> omega
    have e2 : (if x < p then (p : Int) else x) = (mx : Int) := by
      rw [hmx, Nat.max_def]; split <;> split <;> omega
    have hi2 : inD false (.tuple [.int mn, .int mx]) (.tuple (ts.map pD)) = some (.bool (tied ts x p)) := by
      rw [hmn, hmx]
      simpa [pD, tied] using hi
    simp [wD, e1, e2, hi2])
  have hn := rngOk_n (n := n) (by have := h.hi; omega)
  have hl2 : n ≤ 1000000 := by have := h.hi; omega
  unfold m__law_near gf__law_near
  simp [wD] at hl
  simp [wD, hn, hl2, hl, lD, near]
theorem whole_mask_ok {n : Nat} {ts : List (Nat × Nat)} (h : WebOk n ts) : m_whole_mask [wD n ts] = some (.int ((2 ^ n - 1 : Nat) : Int), [wD n ts]) := by
  have h1 : (n : Int) ≤ 1000 := by have := h.hi; omega
  have h2 : 1 ≤ 2 ^ n := Nat.one_le_two_pow
  have e : ((2 ^ n - 1 : Nat) : Int) = (2 : Int) ^ n - 1 := by
    rw [Int.natCast_sub h2]
    simp
  unfold m_whole_mask gf_whole_mask
  simp [wD, h1, e]
theorem mask_of_ok {w : List Nat} (hw : ∀ x ∈ w, x ≤ 1000) (hl : w.length ≤ 1000) : m_mask_of [uD w] = some (.int (((w.map fun x => 2 ^ x).sum : Nat) : Int), [uD w]) := by
  have hc := lc_map0 (own := [1]) (gt := ggName 1) (ge := gBin shlD (gC (.int 1)) (gVar 1)) (φ := nD) (fun x => PyData.int (2 ^ x)) [some (uD w), none] w (by
    intro x hx
    refine ⟨[some (uD w), some (.int x)], rfl, ?_, rfl⟩
    have : (x : Int) ≤ 1000 := by have := hw x hx; omega
    simp [this])
  have hs : sumD (.list (w.map fun x => PyData.int (2 ^ x))) = some (.int (((w.map fun x => 2 ^ x).sum : Nat) : Int)) := by
    show (intsOf (w.map fun x => PyData.int (2 ^ x))).map _ = _
    rw [intsOf_map (f := fun x : Nat => (2 : Int) ^ x), ← sum_cast]
    rfl
  have h2 : w.length ≤ 1000000 := by omega
  unfold m_mask_of gf_mask_of
  simp [uD] at hc
  simp [uD, hc, h2, hs]
structure WalkOk (n : Nat) (ts : List (Nat × Nat)) (w : List Nat) : Prop where
  ne : w ≠ []
  nd : w.Nodup
  lt : ∀ x ∈ w, x < n
  step : ∀ k (h : k + 1 < w.length), tied ts (w[k]'(by omega)) w[k + 1] = true
theorem WalkOk.len {n : Nat} {ts : List (Nat × Nat)} {w : List Nat} (h : WalkOk n ts w) : w.length ≤ n := by
  have := List.Nodup.length_le_of_subset h.nd (l₂ := List.range n) (fun x hx => List.mem_range.mpr (h.lt x hx))
  simpa using this
theorem outside_ok {n : Nat} {ts : List (Nat × Nat)} (h : WebOk n ts) {w : List Nat} (hw : WalkOk n ts w) : m_outside [wD n ts, uD w] = some (.int ((msk (fun i => !decide (i ∈ w)) n : Nat) : Int), [wD n ts, uD w]) := by
  have e1 := whole_mask_ok h
  have hn := h.hi
  have e2 := mask_of_ok (w := w) (fun x hx => by have := hw.lt x hx; omega) (by have := hw.len; omega)
  obtain ⟨q1, q2⟩ := sub_all hw.nd hw.lt
  have e3 : Builtin.bitAnd ((2 ^ n - 1 : Nat) : Int) (Builtin.bitNot (((w.map fun x => 2 ^ x).sum : Nat) : Int)) = ((msk (fun i => !decide (i ∈ w)) n : Nat) : Int) := by
    rw [andnot_nat]
    have : (2 ^ n - 1) &&& (w.map fun x => 2 ^ x).sum = (w.map fun x => 2 ^ x).sum := Nat.eq_of_testBit_eq fun i => by
      rw [Nat.testBit_and, all_bit, sum_bit hw.nd]
      by_cases hi : i ∈ w
      · simp [hi, hw.lt i hi]
      · simp [hi]
    rw [this, ← msk_eq q2]
    omega
  generalize 2 ^ n - 1 = W at e1 e3
  generalize (w.map fun x => 2 ^ x).sum = M at e2 e3
  generalize msk (fun i => !decide (i ∈ w)) n = K at e3
  unfold m_outside gf_outside
  simp [e1, e2, e3]
theorem lot_by_ok {m : Nat} : m_lot_by [.int m] = some (uD ((List.range 12).filter fun i => m.testBit i), [.int m]) := by
  have hl := lc_map (own := [1]) (gt := ggName 1) (gc := (gTru (gBin andD (gBin shrD (gVar 0) (gVar 1)) (gC (.int 1))))) (ge := gVar 1) (φ := nD) (fun i => m.testBit i) nD [some (.int m), none] (List.range 12) (by
    intro x hx
    refine ⟨[some (.int m), some (.int x)], rfl, ?_, fun _ => by simp, rfl⟩
    have := bit1 m x
    simp [this]
    cases m.testBit x <;> rfl)
  have hn : rngOk 12 = true := rngOk_n (n := 12) (by omega)
  have ht : (12 : Int).toNat = 12 := rfl
  unfold m_lot_by gf_lot_by
  simp [hn, ht, hl, uD]
end Lw

set_option Elab.async false
set_option linter.all false
set_option maxRecDepth 100000
set_option maxHeartbeats 2000000
namespace Lw
open PySem L2 DL
theorem lenSet_ok {w : List Nat} (h : w.Nodup) (hl : w.length ≤ 4000) : lenSetD (uD w) = some (.int w.length) := by
  have e1 : intsOf (w.map nD) = some (w.map fun k : Nat => (k : Int)) := intsOf_nD w
  have e2 : (w.map fun k : Nat => (k : Int)).Nodup := List.pairwise_map.mpr (List.Pairwise.imp (fun q z => q (by omega)) h)
  show (intsOf (w.map nD)).bind _ = _
  rw [e1]
  simp only [Option.bind_some, List.length_map]
  rw [if_pos hl, ddp_nodup e2, List.length_map]
theorem is_walk_ok {n : Nat} {ts : List (Nat × Nat)} (h : WebOk n ts) {w : List Nat} (hw : WalkOk n ts w) : m_is_walk [wD n ts, uD w] = some (.bool true, [wD n ts, uD w]) := by
  have hn := h.hi
  have hwl := hw.len
  have hl := lc_map0 (own := [3]) (gt := ggName 3) (ge := gCall [none, none, none] m_is_between (gCons (gC (.int 0)) (gCons (gVar 3) (gCons (gBin subD (gBin ixD (gVar 0) (gC (.int 0))) (gC (.int 1))) gNil)))) (φ := nD) (fun _ => PyData.bool true) [some (wD n ts), some (uD w), none, none] w (by
    intro x hx
    refine ⟨[some (wD n ts), some (uD w), none, some (.int x)], rfl, ?_, rfl⟩
    have hx := hw.lt x hx
    have b1 := is_between_ok (lo := 0) (v := x) (hi := (n : Int) - 1) (by omega) (by omega)
    simp [wD, b1])
  have hl2 := lc_map0 (own := [2]) (gt := ggName 2) (ge := gBin (inD false) (gCall [none, none] m_tie_between (gCons (gBin ixD (gVar 1) (gVar 2)) (gCons (gBin ixD (gVar 1) (gBin addD (gVar 2) (gC (.int 1)))) gNil))) (gBin ixD (gVar 0) (gC (.int 1)))) (φ := nD) (fun _ => PyData.bool true) [some (wD n ts), some (uD w), none, none] (List.range (w.length - 1)) (by
    intro x hx
    have hx := List.mem_range.mp hx
    refine ⟨[some (wD n ts), some (uD w), some (.int x), none], rfl, ?_, rfl⟩
    have g1 : w[x]? = some (w[x]'(by omega)) := List.getElem?_eq_getElem (by omega)
    have g2 : w[x + 1]? = some (w[x + 1]'(by omega)) := List.getElem?_eq_getElem (by omega)
    have hst := hw.step x (by omega)
    generalize w[x]'(by omega) = a at g1 hst
    generalize w[x + 1]'(by omega) = b at g2 hst
    have a1 : atI (w.map nD) (x : Int) = some (nD a) := atm g1
    have a2 : atI (w.map nD) ((x : Int) + 1) = some (nD b) := atm (k := x + 1) g2
    have hb := tie_between_ok a b
    have hi := v_inP false ts (if a < b then (a, b) else (b, a))
    have ht : (if a < b then (a, b) else (b, a)) ∈ ts := by
      have := of_decide_eq_true hst
      rw [Nat.min_def, Nat.max_def] at this
      by_cases q : a < b
      · rw [if_pos q]
        rw [if_pos (by omega), if_pos (by omega)] at this
        exact this
      · rw [if_neg q]
        by_cases q2 : a = b
        · subst q2
          rw [if_pos (Nat.le_refl _)] at this
          exact this
        · rw [if_neg (by omega), if_neg (by omega)] at this
          exact this
    rw [decide_eq_true ht] at hi
    simp only [v_gBin, v_gCall, v_gCons, v_gNil, v_gVar, v_gC, List.getElem?_cons_zero, List.getElem?_cons_succ, Option.bind_some, uD, v_ixT, a1, Option.map_some, v_addI, a2, v_fillN, v_fill0, hb, v_putN, v_put0, wD, at1, hi, Bool.false_xor])
  have ha := all_true w
  have ha2 := all_true (List.range (w.length - 1))
  have hr : rngOk ((w.length : Int) - 1) = true := rngOk_i (by omega) (by omega)
  have ht : ((w.length : Int) - 1).toNat = w.length - 1 := by omega
  have hl3 : w.length ≤ 1000000 := by omega
  have hl4 : w.length - 1 ≤ 1000000 := by omega
  have hls := lenSet_ok hw.nd (by omega)
  have hne : w ≠ [] := hw.ne
  unfold m_is_walk gf_is_walk
  simp only [uD] at hl hl2 hls
  simp [uD, hl, ha, hl2, ha2, hr, ht, hl3, hl4, hls, hne]
theorem check_walk_ok {n : Nat} {ts : List (Nat × Nat)} (h : WebOk n ts) {w : List Nat} (hw : WalkOk n ts w) : m_check_walk [wD n ts, uD w] = some (.none, [wD n ts, uD w]) := by
  unfold m_check_walk gf_check_walk
  simp [is_walk_ok h hw]
def restM (n : Nat) (w : List Nat) : Nat := msk (fun i => !decide (i ∈ w)) n
def bothM (n : Nat) (w : List Nat) (l : Nat) : Nat := msk (fun i => !decide (i ∈ w) || decide (i = l)) n
theorem both_eq {n : Nat} {w : List Nat} {l : Nat} (h : l ∈ w) (hl : l < n) : restM n w + 2 ^ l = bothM n w l := msk_eq fun i => by
  rw [add_bit l _ (by unfold restM; rw [msk_bit]; simp [h])]
  unfold restM
  rw [msk_bit]
  by_cases e : i = l
  · subst e; simp [hl]
  · simp [e]
theorem WalkOk.snoc {n : Nat} {ts : List (Nat × Nat)} {w : List Nat} (h : WalkOk n ts w) {l y : Nat} (hlast : w[w.length - 1]? = some l) (hy : y < n) (hn : y ∉ w) (ht : tied ts l y = true) : WalkOk n ts (w ++ [y]) := by
  refine ⟨by simp, ?_, fun x hx => ?_, fun k hk => ?_⟩
  · exact List.nodup_append.mpr ⟨h.nd, by simp, fun a ha b hb => by
      have : b = y := by simpa using hb
      subst this
      exact fun z => hn (z ▸ ha)⟩
  · rcases List.mem_append.mp hx with q | q
    · exact h.lt x q
    · have : x = y := by simpa using q
      subst this
      exact hy
  · have hpos : 0 < w.length := List.length_pos_iff.mpr h.ne
    simp at hk
    by_cases q : k + 1 < w.length
    · have := h.step k q
      rw [List.getElem_append_left (by omega), List.getElem_append_left q]
      exact this
    · have e : k = w.length - 1 := by omega
      subst e
      rw [List.getElem_append_left (by omega)]
      have e2 : w[w.length - 1]'(by omega) = l := by
        have := List.getElem?_eq_getElem (l := w) (i := w.length - 1) (by omega)
        rw [hlast] at this
        exact (Option.some.inj this).symm
      rw [e2]
      have e3 : (w ++ [y])[w.length - 1 + 1]'(by simp; omega) = y := by
        have : w.length - 1 + 1 = w.length := by omega
        simp [this]
      rw [e3]
      exact ht
def free (n : Nat) (ts : List (Nat × Nat)) (w : List Nat) (l : Nat) : List Nat := (near n ts l).filter fun x => !decide (x ∈ w)
end Lw

set_option Elab.async false
set_option linter.all false
set_option maxRecDepth 100000
set_option maxHeartbeats 2000000
namespace Lw
open PySem L2 DL
theorem last_of {w : List Nat} (h : w ≠ []) : ∃ l, w[w.length - 1]? = some l := by
  have : 0 < w.length := List.length_pos_iff.mpr h
  exact ⟨w[w.length - 1]'(by omega), List.getElem?_eq_getElem (by omega)⟩
theorem at_last {w : List Nat} {l : Nat} (h : w[w.length - 1]? = some l) : atI (w.map nD) (-1) = some (nD l) := by
  have hne : w ≠ [] := fun z => by
    subst z
    simp at h
  rw [atI_last (by simpa using hne), List.length_map, List.getElem?_map, h]
  rfl
theorem mem_free {n : Nat} {ts : List (Nat × Nat)} {w : List Nat} {l y : Nat} (h : y ∈ free n ts w l) : y < n ∧ tied ts l y = true ∧ y ∉ w := by
  unfold free near at h
  simp only [List.mem_filter, List.mem_range] at h
  exact ⟨h.1.1, by rw [tied_comm]; exact h.1.2, by simpa using h.2⟩
theorem near_len {n : Nat} {ts : List (Nat × Nat)} {l : Nat} : (near n ts l).length ≤ n := by
  have := List.length_filter_le (fun x => tied ts x l) (List.range n)
  simpa [near] using this
theorem free_len {n : Nat} {ts : List (Nat × Nat)} {w : List Nat} {l : Nat} : (free n ts w l).length ≤ n := Nat.le_trans (List.length_filter_le _ _) near_len
noncomputable abbrev walkB : GS := (sSeq (sSet 4 (gLc [5] (giS (gCall [none, none] m__law_near (gCons (gVar 1) (gCons (gBin ixD (gVar 2) (gUn negD (gC (.int 1)))) gNil)))) (ggName 5) (gT (gBin (inD true) (gVar 5) (gVar 2))) (gVar 5))) (sIf (gT (gBin neD (gVar 4) (gLst gNil))) (sExpr (gApp 2 (gBin ixD (gVar 4) (gCall [some 0, none] m__law_pick (gConsB 0 (gCons (gUn lenD (gVar 4)) gNil)))))) sNil))
theorem walk_step {n : Nat} {ts : List (Nat × Nat)} (h : WebOk n ts) {s : D} (hs : IsSp s) {w : List Nat} (hw : WalkOk n ts w) (o3 o4 o5 : Option D) :
    ∃ (s2 : D) (w2 : List Nat) (p4 p5 : Option D), IsSp s2 ∧ WalkOk n ts w2 ∧ walkB [some s, some (wD n ts), some (lD w), o3, o4, o5] = some (.nx [some s2, some (wD n ts), some (lD w2), o3, p4, p5]) := by
  obtain ⟨l, hl⟩ := last_of hw.ne
  have hn := h.hi
  have ha := at_last hl
  have hnear := near_ok h l
  have hlen := near_len (n := n) (ts := ts) (l := l)
  have hlen1 : (near n ts l).length ≤ 1000000 := by omega
  have hc := lc_map (own := [5]) (gt := ggName 5) (gc := gT (gBin (inD true) (gVar 5) (gVar 2))) (ge := gVar 5) (φ := nD) (fun x => !decide (x ∈ w)) nD [some s, some (wD n ts), some (lD w), o3, o4, none] (near n ts l) (by
    intro x hx
    refine ⟨[some s, some (wD n ts), some (lD w), o3, o4, some (.int x)], rfl, ?_, fun _ => by simp, rfl⟩
    have := v_inL true w x
    simp [lD, this])
  have hne := v_neL (free n ts w l) []
  have hwl := hw.len
  have hwl1 : w.length ≤ 1000000 := by omega
  by_cases hf : free n ts w l = []
  · refine ⟨s, w, some (.list []), o5, hs, hw, ?_⟩
    have hf2 : (near n ts l).filter (fun x => !decide (x ∈ w)) = [] := hf
    rw [hf2] at hc
    rw [hf] at hne
    simp only [lD, wD] at hc hnear
    simp at hne hc
    simp [lD, wD, ha, hnear, hlen1, hc, hne]
  · have hpos : 0 < (free n ts w l).length := List.length_pos_iff.mpr hf
    have hfl := free_len (n := n) (ts := ts) (w := w) (l := l)
    obtain ⟨r, s2, hs2, hr, e⟩ := pick_ok hs (m := (free n ts w l).length) hpos (by omega)
    have hg : (free n ts w l)[r]? = some ((free n ts w l)[r]) := List.getElem?_eq_getElem hr
    have hy := mem_free (List.getElem_mem hr)
    refine ⟨s2, w ++ [(free n ts w l)[r]], some (lD (free n ts w l)), o5, hs2, hw.snoc hl hy.1 hy.2.2 hy.2.1, ?_⟩
    have hc' : lcL [5] (ggName 5) (gT (gBin (inD true) (gVar 5) (gVar 2))) (gVar 5) ((near n ts l).map nD) [some s, some (wD n ts), some (lD w), o3, o4, none] = some ((free n ts w l).map nD, [some s, some (wD n ts), some (lD w), o3, o4, none]) := hc
    generalize free n ts w l = fr at *
    generalize fr[r] = y at *
    simp only [lD, wD] at hc' hnear
    simp [hf] at hne

    simp [lD, wD, ha, hnear, hlen1, hc', hne, e, hg, hwl1]
theorem walk_ok {n : Nat} {ts : List (Nat × Nat)} (h : WebOk n ts) {s : D} (hs : IsSp s) : ∃ (s2 : D) (w : List Nat), IsSp s2 ∧ WalkOk n ts w ∧ m__law_walk [s, wD n ts] = some (uD w, [s2, wD n ts]) := by
  have hn := h.hi
  have h0 := h.lo
  obtain ⟨r1, s1, hs1, hr1, e1⟩ := pick_ok hs (m := n) (by omega) (by omega)
  obtain ⟨r2, s2, hs2, hr2, e2⟩ := pick_ok hs1 (m := n) (by omega) (by omega)
  have hw0 : WalkOk n ts [r1] := ⟨by simp, by simp, fun x hx => by
    have : x = r1 := by simpa using hx
    omega, fun k hk => by simp at hk⟩
  obtain ⟨ρ, q1, q2⟩ := for_rng0 (gt := ggName 3) (f := walkB) r2 (fun _ ρ => ∃ (s : D) (w : List Nat) (o3 o4 o5 : Option D), IsSp s ∧ WalkOk n ts w ∧ ρ = [some s, some (wD n ts), some (lD w), o3, o4, o5])
    [some s2, some (wD n ts), some (lD [r1]), none, none, none] ⟨s2, [r1], none, none, none, hs2, hw0, rfl⟩ (by
      rintro k ρ hk ⟨s, w, o3, o4, o5, hs, hw, rfl⟩
      obtain ⟨s2, w2, p4, p5, hs2, hw2, e⟩ := walk_step h hs hw (some (nD k)) o4 o5
      exact ⟨_, rfl, _, e, s2, w2, _, p4, p5, hs2, hw2, rfl⟩)
  obtain ⟨s3, w3, o3, o4, o5, hs3, hw3, rfl⟩ := q2
  refine ⟨s3, w3, hs3, hw3, ?_⟩
  have hb := rngOk_n (n := r2) (by omega)
  unfold m__law_walk gf__law_walk
  simp only [wD, lD] at q1
  simp at e1 e2 q1
  simp [wD, e1, e2, hb, q1, uD]
end Lw

set_option Elab.async false
set_option linter.all false
set_option maxRecDepth 100000
set_option maxHeartbeats 2000000
namespace Lw
open PySem L2 DL
@[simp] theorem v_sAugIx {i : Nat} {gi ge : GE} {sem : D → D → Option D} {ρ : DL.Env} : sAugIx i gi ge sem ρ = (getL i ρ).bind fun _ => (gi ρ).bind fun q => (asI q.1).bind fun j => (getL i q.2).bind fun ds0 => (atI ds0 j).bind fun x => (ge q.2).bind fun p => (sem x p.1).bind fun z => (getL i p.2).bind fun ds => (ixN ds.length j).map fun m => .nx (p.2.set i (some (.list (ds.set m z)))) := rfl
@[simp] theorem v_gRep {g : GA} {gb : GE} {ρ : DL.Env} : gRep g gb ρ = (g ρ).bind fun p => (gb p.2).bind fun q => (asI q.1).bind fun k => if p.1.length ≤ 100 ∧ k ≤ 10000 ∧ -10000 ≤ k then some (.list (List.replicate k.toNat p.1).flatten, q.2) else none := rfl
theorem rep1 (n : Nat) (x : D) : (List.replicate n [x]).flatten = List.replicate n x := by
  induction n with
  | zero => rfl
  | succ n ih => rw [List.replicate_succ, List.flatten_cons, ih, List.replicate_succ]; rfl
def rowM (n : Nat) (ts : List (Nat × Nat)) (x : Nat) : Nat := msk (fun y => tied ts x y) n
def rowsD (n : Nat) (ts : List (Nat × Nat)) : D := lD ((List.range n).map (rowM n ts))
noncomputable abbrev nmB : GS := (sSeq (sAugIx 1 (gVar 2) (gBin shlD (gC (.int 1)) (gVar 3)) orD) (sAugIx 1 (gVar 3) (gBin shlD (gC (.int 1)) (gVar 2)) orD))
theorem or2 (a y : Nat) : Builtin.bitOr (a : Int) (2 ^ y) = ((a ||| 2 ^ y : Nat) : Int) := by
  rw [show ((2 : Int) ^ y) = ((2 ^ y : Nat) : Int) by simp, or_nat]
theorem nm_step {W : D} {L : List Nat} {x y : Nat} (hx : x < L.length) (hy : y < L.length) (h1 : x ≤ 1000) (h2 : y ≤ 1000) :
    nmB [some W, some (lD L), some (nD x), some (nD y)] = some (.nx [some W, some (lD ((L.set x (L[x] ||| 2 ^ y)).set y ((L.set x (L[x] ||| 2 ^ y))[y]'(by simpa using hy) ||| 2 ^ x))), some (nD x), some (nD y)]) := by
  have g1 : L[x]? = some L[x] := List.getElem?_eq_getElem hx
  have g2 : (L.set x (L[x] ||| 2 ^ y))[y]? = some ((L.set x (L[x] ||| 2 ^ y))[y]'(by simpa using hy)) := List.getElem?_eq_getElem (by simpa using hy)
  have i1 : (x : Int) ≤ 1000 := by omega
  have i2 : (y : Int) ≤ 1000 := by omega
  have j1 := ixN_nat hx
  have j2 := ixN_nat hy
  have m1 : (L.map nD).set x (nD (L[x] ||| 2 ^ y)) = (L.set x (L[x] ||| 2 ^ y)).map nD := List.map_set.symm
  have r1 : sAugIx 1 (gVar 2) (gBin shlD (gC (.int 1)) (gVar 3)) orD [some W, some (lD L), some (nD x), some (nD y)] = some (.nx [some W, some (lD (L.set x (L[x] ||| 2 ^ y))), some (nD x), some (nD y)]) := by
    have o1 := or2 L[x] y
    generalize L[x] = a at *
    generalize a ||| 2 ^ y = b at *
    simp [lD, g1, i2, o1, j1]
  have r2 : ∀ (L : List Nat) (hy : y < L.length), sAugIx 1 (gVar 3) (gBin shlD (gC (.int 1)) (gVar 2)) orD [some W, some (lD L), some (nD x), some (nD y)] = some (.nx [some W, some (lD (L.set y (L[y] ||| 2 ^ x))), some (nD x), some (nD y)]) := by
    intro L hy
    have g1 : L[y]? = some L[y] := List.getElem?_eq_getElem hy
    have o1 := or2 L[y] x
    have j2 := ixN_nat hy
    have m1 : (L.map nD).set y (nD (L[y] ||| 2 ^ x)) = (L.set y (L[y] ||| 2 ^ x)).map nD := List.map_set.symm
    generalize L[y] = a at *
    generalize a ||| 2 ^ x = b at *
    simp [lD, g1, i1, o1, j2]
  unfold nmB
  rw [v_sSeq, r1]
  exact r2 _ _
theorem neighbour_ok {n : Nat} {ts : List (Nat × Nat)} (h : WebOk n ts) : m_neighbour_masks [wD n ts] = some (rowsD n ts, [wD n ts]) := by
  have hn := h.hi
  obtain ⟨ρ, q1, q2⟩ := for_all (φ := pD) (gt := ggTup 2 (ggCons (ggName 2) (ggCons (ggName 3) (fun ρ ds => if ds.isEmpty then some ρ else none)))) (f := nmB)
    (fun r ρ => ∃ (pre : List (Nat × Nat)) (L : List Nat) (o2 o3 : Option D), ts = pre ++ r ∧ ρ = [some (wD n ts), some (lD L), o2, o3] ∧ L.length = n ∧ ∀ x (hx : x < L.length) i, (L[x]).testBit i = decide ((min x i, max x i) ∈ pre)) ts
    [some (wD n ts), some (lD (List.replicate n 0)), none, none] ⟨[], _, none, none, rfl, rfl, by simp, fun x hx i => by simp⟩ (by
      rintro ⟨x, y⟩ r ρ hxy ⟨pre, L, o2, o3, hp, rfl, hL, hb⟩
      obtain ⟨k1, k2⟩ := h.ok _ hxy
      simp only at k1 k2
      have hx : x < L.length := by omega
      have hy : y < L.length := by omega
      refine ⟨[some (wD n ts), some (lD L), some (nD x), some (nD y)], by simp [pD], _, nm_step hx hy (by omega) (by omega), pre ++ [(x, y)], _, _, _, by simp [hp], rfl, by simp [hL], fun z hz i => ?_⟩
      have hz' : z < L.length := by simpa using hz
      have hmem : ∀ a b : Nat, ((min a b, max a b) ∈ pre ++ [(x, y)]) ↔ ((min a b, max a b) ∈ pre ∨ (min a b = x ∧ max a b = y)) := fun a b => by simp
      by_cases e1 : z = y
      · subst e1
        rw [List.getElem_set_self, Nat.testBit_or, Nat.testBit_two_pow, List.getElem_set_ne (by omega), hb]
        by_cases e2 : x = i
        · subst e2
          have : min z x = x ∧ max z x = z := by omega
          simp [this]
        · have : ¬ (min z i = x ∧ max z i = z) := by omega
          simp only [hmem, this, or_false, e2, decide_false, Bool.or_false]
      · rw [List.getElem_set_ne (by omega)]
        by_cases e2 : z = x
        · subst e2
          rw [List.getElem_set_self, Nat.testBit_or, Nat.testBit_two_pow, hb]
          by_cases e3 : y = i
          · subst e3
            have : min z y = z ∧ max z y = y := by omega
            simp [this]
          · have : ¬ (min z i = z ∧ max z i = y) := by omega
            simp only [hmem, this, or_false, e3, decide_false, Bool.or_false]
        · rw [List.getElem_set_ne (by omega), hb]
          have : ¬ (min z i = x ∧ max z i = y) := by omega
          simp only [hmem, this, or_false])
  obtain ⟨pre, L, o2, o3, hp, rfl, hL, hb⟩ := q2
  rw [List.append_nil] at hp
  subst hp
  have eL : L = (List.range n).map (rowM n ts) := by
    apply List.ext_getElem (by simp [hL])
    intro x h1 h2
    rw [List.getElem_map, List.getElem_range]
    refine msk_eq fun i => ?_
    rw [hb x h1]
    by_cases hi : i < n
    · simp [hi, tied]
    · have : (min x i, max x i) ∉ ts := fun z => by
        have := (h.ok _ z).2
        simp only at this
        omega
      simp [hi, this]
  subst eL
  have i1 : (n : Int) ≤ 10000 := by omega
  have i2 : -10000 ≤ (n : Int) := by omega
  have hr : (List.replicate n [PyData.int 0]).flatten = (List.replicate n 0).map nD := by
    rw [rep1, List.map_replicate]
    rfl
  unfold m_neighbour_masks gf_neighbour_masks
  simp only [wD, lD] at q1
  simp only [rowsD, lD]
  generalize (List.map (rowM n ts) (List.range n)) = R at *
  simp [wD, i1, i2, hr]
  have hz : nD 0 = PyData.int 0 := rfl
  simp [hz] at q1
  simp [q1]
end Lw

set_option Elab.async false
set_option linter.all false
set_option maxRecDepth 100000
set_option maxHeartbeats 2000000
namespace Lw
open PySem L2 DL
theorem xorm {m y : Nat} (h : m.testBit y = true) : Builtin.bitXor (m : Int) (2 ^ y) = ((m - 2 ^ y : Nat) : Int) := by
  rw [show ((2 : Int) ^ y) = ((2 ^ y : Nat) : Int) by simp, xor_bit h]
theorem pow_ne (y : Nat) : ((2 : Int) ^ y != 0) = true := by
  have : (2 : Int) ^ y ≠ 0 := by
    have : 0 < 2 ^ y := Nat.two_pow_pos y
    have e : ((2 : Int) ^ y) = ((2 ^ y : Nat) : Int) := by simp
    rw [e]
    omega
  simpa using this
noncomputable abbrev stB : GS := (sIf (gAnd (gTru (gBin andD (gVar 5) (gVar 7))) (gT (gBin eqD (gBin ixD (gVar 2) (gBin xorD (gVar 5) (gVar 7))) (gVar 6)))) (sSeq (sAug 6 (iD fun i j => i + j) (gC (.int 1))) sBrk) sNil)
theorem st_body {W rows near : D} {Z : List Nat} {top rest a y g : Nat} {o8 : Option D} (hZ : rest.testBit y = true → Z[rest - 2 ^ y]? = some g) :
    stB [some W, some rows, some (lD Z), some (nD top), some near, some (nD rest), some (nD a), some (.int (2 ^ y)), o8] =
      if rest.testBit y = true ∧ g = a then some (.bk [some W, some rows, some (lD Z), some (nD top), some near, some (nD rest), some (nD (a + 1)), some (.int (2 ^ y)), o8])
      else some (.nx [some W, some rows, some (lD Z), some (nD top), some near, some (nD rest), some (nD a), some (.int (2 ^ y)), o8]) := by
  have hm := bitm rest y
  cases hb : rest.testBit y with
  | false =>
    rw [hb] at hm
    simp at hm
    simp [hm]
  | true =>
    rw [hb] at hm
    simp at hm
    have hx := xorm hb
    have hz := hZ hb
    have hp := pow_ne y
    generalize rest - 2 ^ y = q at hx hz
    by_cases hg : g = a
    · subst hg
      simp [hm, hp, hx, lD, hz]
    · have hg2 : ((g : Int) == (a : Int)) = false := by simp; omega
      have hg3 : ¬ (g : Int) = (a : Int) := by omega
      simp [hm, hp, hx, lD, hz, hg, hg2, hg3]
theorem st_in {W rows near : D} {Z : List Nat} {top rest a : Nat} (g : Nat → Nat) (nr : List Nat) (o7 o8 : Option D) (hZ : ∀ y ∈ nr, rest.testBit y = true → Z[rest - 2 ^ y]? = some (g y)) :
    ∃ (size : Nat) (p7 : Option D), sForL (ggName 7) stB (nr.map fun y => PyData.int (2 ^ y)) [some W, some rows, some (lD Z), some (nD top), some near, some (nD rest), some (nD a), o7, o8] =
        some (.nx [some W, some rows, some (lD Z), some (nD top), some near, some (nD rest), some (nD size), p7, o8]) ∧
      ((size = a ∧ ∀ y ∈ nr, rest.testBit y = true → g y ≠ a) ∨ (size = a + 1 ∧ ∃ y ∈ nr, rest.testBit y = true ∧ g y = a)) := by
  obtain ⟨o, q1, q2⟩ := for_inv (φ := fun y : Nat => PyData.int (2 ^ y)) (gt := ggName 7) (f := stB)
    (fun r ρ => ∃ (pre : List Nat) (o7 : Option D), nr = pre ++ r ∧ ρ = [some W, some rows, some (lD Z), some (nD top), some near, some (nD rest), some (nD a), o7, o8] ∧ ∀ y ∈ pre, rest.testBit y = true → g y ≠ a)
    (fun ρ => ∃ (o7 : Option D), ρ = [some W, some rows, some (lD Z), some (nD top), some near, some (nD rest), some (nD (a + 1)), o7, o8] ∧ ∃ y ∈ nr, rest.testBit y = true ∧ g y = a) (fun _ _ => False) nr _ ⟨[], o7, rfl, rfl, by simp⟩ (by
      rintro y r ρ ⟨pre, o7, hp, rfl, hn⟩
      have hy : y ∈ nr := by rw [hp]; simp
      have e := st_body (W := W) (rows := rows) (near := near) (top := top) (a := a) (o8 := o8) (hZ y hy)
      by_cases hc : rest.testBit y = true ∧ g y = a
      · rw [if_pos hc] at e
        exact ⟨_, _, rfl, e, some (.int (2 ^ y)), rfl, y, hy, hc⟩
      · rw [if_neg hc] at e
        refine ⟨_, _, rfl, e, pre ++ [y], some (.int (2 ^ y)), by simp [hp], rfl, fun z hz hb => ?_⟩
        rcases List.mem_append.mp hz with q | q
        · exact hn z q hb
        · have : z = y := by simpa using q
          subst this
          exact fun w => hc ⟨hb, w⟩)
  cases o with
  | nx ρ =>
    rcases q2 with ⟨pre, p7, hp, rfl, hn⟩ | ⟨p7, rfl, hy⟩
    · rw [List.append_nil] at hp
      subst hp
      exact ⟨a, p7, q1, .inl ⟨rfl, hn⟩⟩
    · exact ⟨a + 1, p7, q1, .inr ⟨rfl, hy⟩⟩
  | rt d ρ => exact q2.elim
  | bk ρ => exact q2.elim
  | ct ρ => exact q2.elim
def tabL (ts : List (Nat × Nat)) (t k : Nat) : List Nat := (List.range k).map (nuM (tied ts) t)
theorem tab_get {ts : List (Nat × Nat)} {t k m : Nat} (h : m < k) : (tabL ts t k)[m]? = some (nuM (tied ts) t m) := by
  unfold tabL
  rw [List.getElem?_map, List.getElem?_range h]
  rfl
theorem tab_len {ts : List (Nat × Nat)} {t k : Nat} : (tabL ts t k).length = k := by simp [tabL]
theorem tab_succ {ts : List (Nat × Nat)} {t k : Nat} : tabL ts t (k + 1) = tabL ts t k ++ [nuM (tied ts) t k] := by simp [tabL, List.range_succ]
theorem tab_up {ts : List (Nat × Nat)} {t : Nat} : tabL ts t (2 ^ t) = tabL ts (t + 1) (2 ^ t) := by
  unfold tabL
  exact List.map_congr_left fun m hm => (nuM_up (List.mem_range.mp hm)).symm
noncomputable abbrev stR : GS := (sSeq (sSet 6 (gBin ixD (gVar 2) (gVar 5))) (sSeq (sFor (giS (gVar 4)) (ggName 7) stB) (sExpr (gApp 2 (gVar 6)))))
def nrs (ts : List (Nat × Nat)) (t : Nat) : List Nat := (List.range t).filter fun y => tied ts y t
def bitsD (l : List Nat) : D := .list (l.map fun y => PyData.int (2 ^ y))
theorem st_rest {W rows : D} {ts : List (Nat × Nat)} {top rest : Nat} (hr : rest < 2 ^ top) (ht : top ≤ 12) (o6 o7 o8 : Option D) :
    ∃ (p6 p7 : Option D), stR [some W, some rows, some (lD (tabL ts (top + 1) (2 ^ top + rest))), some (nD top), some (bitsD (nrs ts top)), some (nD rest), o6, o7, o8] =
      some (.nx [some W, some rows, some (lD (tabL ts (top + 1) (2 ^ top + (rest + 1)))), some (nD top), some (bitsD (nrs ts top)), some (nD rest), p6, p7, o8]) := by
  have hp := Nat.two_pow_pos top
  have hg : (tabL ts (top + 1) (2 ^ top + rest))[rest]? = some (nuM (tied ts) top rest) := by
    rw [tab_get (by omega), nuM_up hr]
  obtain ⟨size, p7, q1, q2⟩ := st_in (W := W) (rows := rows) (near := bitsD (nrs ts top)) (Z := tabL ts (top + 1) (2 ^ top + rest)) (top := top) (rest := rest) (a := nuM (tied ts) top rest) (fun y => nuM (tied ts) top (rest - 2 ^ y)) (nrs ts top) o7 o8 (fun y hy hb => by
    have hlt : rest - 2 ^ y < 2 ^ top := Nat.lt_of_le_of_lt (Nat.sub_le _ _) hr
    rw [tab_get (Nat.lt_of_lt_of_le hlt (Nat.le_add_right _ _)), nuM_up hlt])
  have hsize : size = nuM (tied ts) (top + 1) (2 ^ top + rest) := by
    have hs := nuM_spec (T := tied ts) hr
    rw [Nat.add_comm rest] at hs
    have hm : ∀ y, y ∈ nrs ts top ↔ (y < top ∧ tied ts y top = true) := fun y => by simp [nrs]
    refine max_uniq (f := fun y => nuM (tied ts) top (rest - 2 ^ y) + 1) (P := fun y => y < top ∧ tied ts y top = true ∧ rest.testBit y = true) ?_ hs
    rcases q2 with ⟨rfl, q2⟩ | ⟨rfl, y, hy, hb, e⟩
    · refine ⟨Nat.le_refl _, fun y hy => ?_, .inl rfl⟩
      have h1 := q2 y ((hm y).mpr ⟨hy.1, hy.2.1⟩) hy.2.2
      have h2 := nuM_sub (T := tied ts) (t := top) hy.2.2
      omega
    · refine ⟨by omega, fun z hz => ?_, .inr ⟨y, ⟨((hm y).mp hy).1, ((hm y).mp hy).2, hb⟩, by rw [e]⟩⟩
      have h2 := nuM_sub (T := tied ts) (t := top) hz.2.2
      omega
  refine ⟨some (nD size), p7, ?_⟩
  have e1 : tabL ts (top + 1) (2 ^ top + (rest + 1)) = tabL ts (top + 1) (2 ^ top + rest) ++ [size] := by
    rw [hsize, ← Nat.add_assoc, tab_succ]
  have hlen : (tabL ts (top + 1) (2 ^ top + rest)).length ≤ 1000000 := by
    rw [tab_len]
    have : 2 ^ top ≤ 2 ^ 12 := Nat.pow_le_pow_right (by omega) ht
    have : (2 : Nat) ^ 12 = 4096 := rfl
    omega
  rw [e1]
  generalize tabL ts (top + 1) (2 ^ top + rest) = Z at *
  generalize nuM (tied ts) top rest = a at *
  simp only [lD, bitsD] at q1
  simp [lD, bitsD, hg, q1, hlen]
noncomputable abbrev stT : GS := (sSeq (sSet 4 (gLc [8] (giR1 (gVar 3)) (ggName 8) (gTru (gBin andD (gBin shrD (gBin ixD (gVar 1) (gVar 3)) (gVar 8)) (gC (.int 1)))) (gBin shlD (gC (.int 1)) (gVar 8)))) (sFor (giR1 (gBin shlD (gC (.int 1)) (gVar 3))) (ggName 5) stR))
theorem st_top {W : D} {n : Nat} {ts : List (Nat × Nat)} {top : Nat} (hn : n ≤ 12) (ht : top < n) (o4 o5 o6 o7 o8 : Option D) :
    ∃ (p4 p5 p6 p7 p8 : Option D), stT [some W, some (rowsD n ts), some (lD (tabL ts top (2 ^ top))), some (nD top), o4, o5, o6, o7, o8] =
      some (.nx [some W, some (rowsD n ts), some (lD (tabL ts (top + 1) (2 ^ (top + 1)))), some (nD top), p4, p5, p6, p7, p8]) := by
  have hrow : ((List.range n).map (rowM n ts))[top]? = some (rowM n ts top) := by
    rw [List.getElem?_map, List.getElem?_range ht]
    rfl
  have hc := lc_map (own := [8]) (gt := ggName 8) (gc := (gTru (gBin andD (gBin shrD (gBin ixD (gVar 1) (gVar 3)) (gVar 8)) (gC (.int 1))))) (ge := gBin shlD (gC (.int 1)) (gVar 8)) (φ := nD) (fun y => tied ts y top) (fun y => PyData.int (2 ^ y))
    [some W, some (rowsD n ts), some (lD (tabL ts top (2 ^ top))), some (nD top), o4, o5, o6, o7, none] (List.range top) (by
    intro y hy
    have hy := List.mem_range.mp hy
    refine ⟨[some W, some (rowsD n ts), some (lD (tabL ts top (2 ^ top))), some (nD top), o4, o5, o6, o7, some (nD y)], rfl, ?_, fun _ => ?_, rfl⟩
    · have hb := bit1 (rowM n ts top) y
      have ht2 : (rowM n ts top).testBit y = tied ts y top := by
        unfold rowM
        rw [msk_bit]
        have : y < n := by omega
        simp [this]
        exact tied_comm
      rw [ht2] at hb
      simp only [rowsD]
      generalize (List.range n).map (rowM n ts) = R at *
      generalize tabL ts top (2 ^ top) = Z at *
      generalize rowM n ts top = m at *
      cases hh : tied ts y top <;> simp [hh] at hb <;> simp [lD, hrow, hb]
    · have : (y : Int) ≤ 1000 := by omega
      generalize tabL ts top (2 ^ top) = Z at *
      generalize rowsD n ts = R at *
      simp [this])
  have hc' : lcL [8] (ggName 8) (gTru (gBin andD (gBin shrD (gBin ixD (gVar 1) (gVar 3)) (gVar 8)) (gC (.int 1)))) (gBin shlD (gC (.int 1)) (gVar 8)) ((List.range top).map nD) [some W, some (rowsD n ts), some (lD (tabL ts top (2 ^ top))), some (nD top), o4, o5, o6, o7, none] = some ((nrs ts top).map (fun y => PyData.int (2 ^ y)), [some W, some (rowsD n ts), some (lD (tabL ts top (2 ^ top))), some (nD top), o4, o5, o6, o7, none]) := hc
  obtain ⟨ρ, q1, q2⟩ := for_rng0 (gt := ggName 5) (f := stR) (2 ^ top) (fun r ρ => r ≤ 2 ^ top ∧ ∃ (o5 o6 o7 : Option D), ρ = [some W, some (rowsD n ts), some (lD (tabL ts (top + 1) (2 ^ top + r))), some (nD top), some (bitsD (nrs ts top)), o5, o6, o7, o8])
    [some W, some (rowsD n ts), some (lD (tabL ts top (2 ^ top))), some (nD top), some (bitsD (nrs ts top)), o5, o6, o7, o8] ⟨Nat.zero_le _, o5, o6, o7, by rw [tab_up]; rfl⟩ (by
      rintro r ρ hr ⟨_, o5, o6, o7, rfl⟩
      obtain ⟨p6, p7, e⟩ := st_rest (W := W) (rows := rowsD n ts) (ts := ts) hr (by omega) o6 o7 o8
      exact ⟨_, rfl, _, e, hr, _, p6, p7, rfl⟩)
  obtain ⟨_, p5, p6, p7, rfl⟩ := q2
  rw [show 2 ^ top + 2 ^ top = 2 ^ (top + 1) by rw [Nat.pow_succ]; omega] at q1
  refine ⟨some (bitsD (nrs ts top)), p5, p6, p7, o8, ?_⟩
  have hb := rngOk_n (n := top) (by omega)
  have h12 : 2 ^ top ≤ 2 ^ 12 := Nat.pow_le_pow_right (by omega) (by omega)
  have e12 : (2 : Nat) ^ 12 = 4096 := rfl
  have hb2 : rngOk ((2 : Int) ^ top) = true := by
    have := rngOk_n (n := 2 ^ top) (by omega)
    simpa using this
  have ht3 : ((2 : Int) ^ top).toNat = 2 ^ top := by
    have : ((2 : Int) ^ top) = ((2 ^ top : Nat) : Int) := by simp
    rw [this]
    rfl
  have hl : top ≤ 1000000 := by omega
  have hl2 : (top : Int) ≤ 1000 := by omega
  unfold stT
  generalize tabL ts (top + 1) (2 ^ (top + 1)) = Z2 at *
  generalize tabL ts top (2 ^ top) = Z1 at *
  generalize rowsD n ts = R at *
  simp only [bitsD] at q1 ⊢
  simp [hb, hl, hc', hl2, hb2, ht3, q1]
theorem size_table_ok {n : Nat} {ts : List (Nat × Nat)} (h : WebOk n ts) : m_size_table [wD n ts] = some (lD (tabL ts n (2 ^ n)), [wD n ts]) := by
  have hn := h.hi
  obtain ⟨ρ, q1, q2⟩ := for_rng0 (gt := ggName 3) (f := stT) n (fun t ρ => t ≤ n ∧ ∃ (o3 o4 o5 o6 o7 o8 : Option D), ρ = [some (wD n ts), some (rowsD n ts), some (lD (tabL ts t (2 ^ t))), o3, o4, o5, o6, o7, o8])
    [some (wD n ts), some (rowsD n ts), some (lD [0]), none, none, none, none, none, none] ⟨Nat.zero_le _, none, none, none, none, none, none, rfl⟩ (by
      rintro t ρ ht ⟨_, o3, o4, o5, o6, o7, o8, rfl⟩
      obtain ⟨p4, p5, p6, p7, p8, e⟩ := st_top (W := wD n ts) (ts := ts) hn ht o4 o5 o6 o7 o8
      exact ⟨_, rfl, _, e, ht, _, p4, p5, p6, p7, p8, rfl⟩)
  obtain ⟨_, o3, o4, o5, o6, o7, o8, rfl⟩ := q2
  have e0 := neighbour_ok h
  have hb := rngOk_n (n := n) (by omega)
  unfold m_size_table gf_size_table
  generalize tabL ts n (2 ^ n) = Z at *
  generalize rowsD n ts = R at *
  have hz : nD 0 = PyData.int 0 := rfl
  simp only [wD, lD] at q1 e0
  simp [hz] at q1
  simp [wD, lD, e0, hb, q1]
end Lw

set_option Elab.async false
set_option linter.all false
set_option maxRecDepth 100000
set_option maxHeartbeats 2000000
namespace Lw
open PySem L2 DL
abbrev val (n : Nat) (ts : List (Nat × Nat)) (m : Nat) : Nat := nuM (tied ts) n m
theorem tabN {n : Nat} {ts : List (Nat × Nat)} {m : Nat} (h : m < 2 ^ n) : (tabL ts n (2 ^ n))[m]? = some (val n ts m) := tab_get h
theorem filter_range {n : Nat} (Q : Nat → Bool) : ∀ {m}, n ≤ m → (List.range m).filter (fun i => decide (i < n) && Q i) = (List.range n).filter Q
  | 0, h => by
    have : n = 0 := by omega
    subst this
    rfl
  | m + 1, h => by
    by_cases e : n = m + 1
    · subst e
      refine List.filter_congr fun i hi => ?_
      simp [List.mem_range.mp hi]
    · rw [List.range_succ, List.filter_append, filter_range Q (by omega)]
      have : ¬ m < n := by omega
      simp [this]
theorem restM_lt {n : Nat} {w : List Nat} : restM n w < 2 ^ n := msk_lt n
theorem bothM_lt {n : Nat} {w : List Nat} {l : Nat} : bothM n w l < 2 ^ n := msk_lt n
theorem rest_bit {n : Nat} {w : List Nat} {i : Nat} : (restM n w).testBit i = (decide (i < n) && !decide (i ∈ w)) := msk_bit
theorem both_bit {n : Nat} {w : List Nat} {l i : Nat} : (bothM n w l).testBit i = (decide (i < n) && (!decide (i ∈ w) || decide (i = l))) := msk_bit
theorem orR {n : Nat} {w : List Nat} {l : Nat} (h : l ∈ w) (hl : l < n) : Builtin.bitOr ((restM n w : Nat) : Int) (2 ^ l) = ((bothM n w l : Nat) : Int) := by
  rw [or2, or_bit_out (by rw [rest_bit]; simp [h]), both_eq h hl]
theorem mover_wins_ok {n : Nat} {ts : List (Nat × Nat)} (h : WebOk n ts) {w : List Nat} (hw : WalkOk n ts w) {l : Nat} (hlast : w[w.length - 1]? = some l) :
    m_mover_wins [wD n ts, uD w] = some (.bool (decide (val n ts (restM n w) < val n ts (bothM n w l))), [wD n ts, uD w]) := by
  have hn := h.hi
  have hlm : l ∈ w := List.mem_of_getElem? hlast
  have hll := hw.lt l hlm
  have e1 := check_web_ok h
  have e2 := check_walk_ok h hw
  have e3 := size_table_ok h
  have e4 := outside_ok h hw
  have e4' : m_outside [wD n ts, uD w] = some (.int ((restM n w : Nat) : Int), [wD n ts, uD w]) := e4
  have ha := at_last hlast
  have ho := orR hlm hll
  have g1 := tabN (ts := ts) (restM_lt (n := n) (w := w))
  have g2 := tabN (ts := ts) (bothM_lt (n := n) (w := w) (l := l))
  have h5 : (l : Int) ≤ 1000 := by omega
  unfold m_mover_wins gf_mover_wins
  generalize tabL ts n (2 ^ n) = Z at *
  generalize restM n w = R at *
  generalize bothM n w l = B at *
  generalize val n ts R = vR at *
  generalize val n ts B = vB at *
  have hU : ixD (uD w) (.int (-1)) = some (nD l) := ha
  generalize wD n ts = W at *
  generalize uD w = U at *
  simp [e1, e2, e3, e4', hU, h5, ho, lD, g1, g2]
theorem xorR {m x : Nat} (h : m.testBit x = true) : Builtin.bitXor (m : Int) (2 ^ x) = ((m - 2 ^ x : Nat) : Int) := xorm h
def good (n : Nat) (ts : List (Nat × Nat)) (m x : Nat) : Bool := decide (val n ts (m - 2 ^ x) = val n ts m)
theorem moves_free {n : Nat} {ts : List (Nat × Nat)} (h : WebOk n ts) {w : List Nat} {l : Nat} (hl : l < n) : (List.range 12).filter (fun i => (rowM n ts l &&& restM n w).testBit i) = free n ts w l := by
  have e : (fun i => (rowM n ts l &&& restM n w).testBit i) = fun i => decide (i < n) && (tied ts i l && !decide (i ∈ w)) := funext fun i => by
    rw [Nat.testBit_and, rest_bit]
    unfold rowM
    rw [msk_bit, tied_comm]
    by_cases q : i < n
    · simp [q]
    · simp [q]
  rw [e, filter_range _ h.hi]
  unfold free near
  rw [List.filter_filter]
  refine List.filter_congr fun i hi => ?_
  rw [Bool.and_comm]
theorem winning_moves_ok {n : Nat} {ts : List (Nat × Nat)} (h : WebOk n ts) {w : List Nat} (hw : WalkOk n ts w) {l : Nat} (hlast : w[w.length - 1]? = some l) :
    m_winning_moves [wD n ts, uD w] = some (lD ((free n ts w l).filter (good n ts (restM n w))), [wD n ts, uD w]) := by
  have hn := h.hi
  have hlm : l ∈ w := List.mem_of_getElem? hlast
  have hll := hw.lt l hlm
  have e1 := check_web_ok h
  have e2 := check_walk_ok h hw
  have e3 := size_table_ok h
  have e4' : m_outside [wD n ts, uD w] = some (.int ((restM n w : Nat) : Int), [wD n ts, uD w]) := outside_ok h hw
  have e5 := neighbour_ok h
  have ha := at_last hlast
  have e6 := lot_by_ok (m := rowM n ts l &&& restM n w)
  rw [moves_free h hll] at e6
  have hrow : ((List.range n).map (rowM n ts))[l]? = some (rowM n ts l) := by
    rw [List.getElem?_map, List.getElem?_range hll]
    rfl
  have hand := and_nat (rowM n ts l) (restM n w)
  have hfl := free_len (n := n) (ts := ts) (w := w) (l := l)
  have hc := lc_map (own := [5]) (gt := ggName 5) (gc := (gT (gBin eqD (gBin ixD (gVar 2) (gBin xorD (gVar 3) (gBin shlD (gC (.int 1)) (gVar 5)))) (gBin ixD (gVar 2) (gVar 3))))) (ge := gVar 5) (φ := nD) (good n ts (restM n w)) nD
    [some (wD n ts), some (uD w), some (lD (tabL ts n (2 ^ n))), some (.int ((restM n w : Nat) : Int)), some (uD (free n ts w l)), none] (free n ts w l) (by
    intro x hx
    obtain ⟨f1, f2, f3⟩ := mem_free hx
    have hb : (restM n w).testBit x = true := by rw [rest_bit]; simp [f1, f3]
    refine ⟨[some (wD n ts), some (uD w), some (lD (tabL ts n (2 ^ n))), some (.int ((restM n w : Nat) : Int)), some (uD (free n ts w l)), some (nD x)], rfl, ?_, fun _ => by simp, rfl⟩
    have g1 := tabN (ts := ts) (restM_lt (n := n) (w := w))
    have g2 := tabN (ts := ts) (n := n) (m := restM n w - 2 ^ x) (Nat.lt_of_le_of_lt (Nat.sub_le _ _) restM_lt)
    have hxx := xorR hb
    have h5 : (x : Int) ≤ 1000 := by omega
    have hg : good n ts (restM n w) x = ((val n ts (restM n w - 2 ^ x) : Int) == (val n ts (restM n w) : Int)) := by
      unfold good
      by_cases q : val n ts (restM n w - 2 ^ x) = val n ts (restM n w)
      · simp [q]
      · have : ((val n ts (restM n w - 2 ^ x) : Int) == (val n ts (restM n w) : Int)) = false := by
          rw [beq_eq_false_iff_ne]
          omega
        rw [this, decide_eq_false q]
    rw [hg]
    generalize tabL ts n (2 ^ n) = Z at *
    generalize restM n w - 2 ^ x = R2 at *
    generalize restM n w = R at *
    generalize val n ts R = vR at *
    generalize val n ts R2 = vB at *
    simp [lD, hxx, h5, g1, g2])
  unfold m_winning_moves gf_winning_moves
  have hU : ixD (uD w) (.int (-1)) = some (nD l) := ha
  have hrow2 : ixD (rowsD n ts) (nD l) = some (nD (rowM n ts l)) := by
    show atI (((List.range n).map (rowM n ts)).map nD) (l : Int) = _
    exact atm hrow
  have hl2 : (free n ts w l).length ≤ 1000000 := by omega
  generalize tabL ts n (2 ^ n) = Z at *
  generalize rowM n ts l &&& restM n w = RR at *
  generalize rowM n ts l = row at *
  generalize restM n w = R at *
  generalize free n ts w l = fr at *
  generalize wD n ts = W at *
  generalize uD w = U at *
  generalize rowsD n ts = rr at *
  simp only [uD] at e6 hc
  simp [e1, e2, e3, e4', e5, hU, hrow2, hand, e6, hl2, hc]
  rfl
end Lw

set_option Elab.async false
set_option linter.all false
set_option maxRecDepth 100000
set_option maxHeartbeats 2000000
namespace Lw
open PySem L2 DL
theorem for_rngF {gt : GG} {f : GS} (φ : Nat → D) (n : Nat) (I : Nat → DL.Env → Prop) (ρ : DL.Env) (h : I 0 ρ)
    (st : ∀ k ρ, k < n → I k ρ → ∃ ρ1, gt ρ (φ k) = some ρ1 ∧ ∃ o, f ρ1 = some o ∧ match o with
      | .nx ρ2 => I (k + 1) ρ2
      | .ct ρ2 => I (k + 1) ρ2
      | _ => False) :
    ∃ ρ', sForL gt f ((List.range n).map φ) ρ = some (.nx ρ') ∧ I n ρ' := by
  obtain ⟨ρ', h1, h2⟩ := for_all (φ := φ) (gt := gt) (f := f) (fun r ρ => ∃ k, k ≤ n ∧ r = List.range' k (n - k) ∧ I k ρ) (List.range n) ρ ⟨0, Nat.zero_le _, by rw [List.range_eq_range']; rfl, h⟩ (by
    rintro x r ρ _ ⟨k, hk, hr, hI⟩
    obtain ⟨rfl, hm, rfl⟩ := range'_cons hr
    obtain ⟨ρ1, q1, o, q2, q3⟩ := st x ρ (by omega) hI
    refine ⟨ρ1, q1, o, q2, ?_⟩
    have e : n - x - 1 = n - (x + 1) := by omega
    cases o with
    | nx ρ2 => exact ⟨x + 1, by omega, by rw [e], q3⟩
    | ct ρ2 => exact ⟨x + 1, by omega, by rw [e], q3⟩
    | bk ρ2 => exact q3
    | rt d ρ2 => exact q3)
  obtain ⟨k, hk, hr, hI⟩ := h2
  have : n - k = 0 := by
    have := congrArg List.length hr
    simpa using this.symm
  have : k = n := by omega
  subst this
  exact ⟨ρ', h1, hI⟩
theorem winning_starts_ok {n : Nat} {ts : List (Nat × Nat)} (h : WebOk n ts) : m_winning_starts [wD n ts] = some (lD ((List.range n).filter (good n ts (2 ^ n - 1))), [wD n ts]) := by
  have hn := h.hi
  have e1 := check_web_ok h
  have e3 := size_table_ok h
  have e4 := whole_mask_ok h
  have hp := Nat.two_pow_pos n
  have hc := lc_map (own := [3]) (gt := ggName 3) (gc := (gT (gBin eqD (gBin ixD (gVar 1) (gBin xorD (gVar 2) (gBin shlD (gC (.int 1)) (gVar 3)))) (gBin ixD (gVar 1) (gVar 2))))) (ge := gVar 3) (φ := nD) (good n ts (2 ^ n - 1)) nD
    [some (wD n ts), some (lD (tabL ts n (2 ^ n))), some (.int ((2 ^ n - 1 : Nat) : Int)), none] (List.range n) (by
    intro x hx
    have hx := List.mem_range.mp hx
    have hb : (2 ^ n - 1).testBit x = true := by rw [all_bit]; simp [hx]
    refine ⟨[some (wD n ts), some (lD (tabL ts n (2 ^ n))), some (.int ((2 ^ n - 1 : Nat) : Int)), some (nD x)], rfl, ?_, fun _ => by simp, rfl⟩
    have g1 := tabN (ts := ts) (n := n) (m := 2 ^ n - 1) (by omega)
    have g2 := tabN (ts := ts) (n := n) (m := 2 ^ n - 1 - 2 ^ x) (Nat.lt_of_le_of_lt (Nat.sub_le _ _) (Nat.sub_lt hp Nat.one_pos))
    have hxx := xorR hb
    have h5 : (x : Int) ≤ 1000 := by omega
    have hg : good n ts (2 ^ n - 1) x = ((val n ts (2 ^ n - 1 - 2 ^ x) : Int) == (val n ts (2 ^ n - 1) : Int)) := by
      unfold good
      by_cases q : val n ts (2 ^ n - 1 - 2 ^ x) = val n ts (2 ^ n - 1)
      · simp [q]
      · have : ((val n ts (2 ^ n - 1 - 2 ^ x) : Int) == (val n ts (2 ^ n - 1) : Int)) = false := by
          rw [beq_eq_false_iff_ne]
          omega
        rw [this, decide_eq_false q]
    rw [hg]
    generalize tabL ts n (2 ^ n) = Z at *
    generalize 2 ^ n - 1 - 2 ^ x = R2 at *
    generalize 2 ^ n - 1 = R at *
    generalize val n ts R = vR at *
    generalize val n ts R2 = vB at *
    simp [lD, hxx, h5, g1, g2])
  have hb := rngOk_n (n := n) (by omega)
  have hl : n ≤ 1000000 := by omega
  unfold m_winning_starts gf_winning_starts
  generalize tabL ts n (2 ^ n) = Z at *
  generalize good n ts (2 ^ n - 1) = gd at *
  generalize 2 ^ n - 1 = R at *
  have hW : ixD (wD n ts) (.int 0) = some (nD n) := by simp [wD]
  generalize wD n ts = W at *
  simp [e1, e3, e4, hW, hb, hl, hc]
  rfl
/-! ### pairing_in -/
end Lw

set_option Elab.async false
set_option linter.all false
set_option maxRecDepth 100000
set_option maxHeartbeats 2000000
/-! P12: who wins, by what greatest pairings tell -/
namespace Lw
open PySem L2 DL
theorem pair_out {T : Nat → Nat → Bool} {n : Nat} {B : Nat → Bool} {P : List (Nat × Nat)} (h : Pairing T n B P) {p : Nat × Nat} (hp : p ∈ P) :
    ∃ P', P.length = P'.length + 1 ∧ Pairing T n (fun i => B i && (!decide (i = p.1) && !decide (i = p.2))) P' := by
  have hper := List.perm_cons_erase hp
  have h' := h.perm hper
  refine ⟨P.erase p, by rw [hper.length_eq]; rfl, ?_⟩
  have nd := h'.nd
  have e : ends (p :: P.erase p) = p.1 :: p.2 :: ends (P.erase p) := rfl
  rw [e, List.nodup_cons, List.nodup_cons] at nd
  refine ⟨fun q hq => ?_, nd.2.2⟩
  obtain ⟨j1, j2, j3, j4, j5⟩ := h'.ok q (List.mem_cons_of_mem _ hq)
  have m1 : q.1 ∈ ends (P.erase p) := mem_ends.mpr ⟨q, hq, .inl rfl⟩
  have m2 : q.2 ∈ ends (P.erase p) := mem_ends.mpr ⟨q, hq, .inr rfl⟩
  have a1 : q.1 ≠ p.1 := fun z => nd.1 (by rw [← z]; exact List.mem_cons_of_mem _ m1)
  have a2 : q.2 ≠ p.1 := fun z => nd.1 (by rw [← z]; exact List.mem_cons_of_mem _ m2)
  have b1 : q.1 ≠ p.2 := fun z => nd.2.1 (by rw [← z]; exact m1)
  have b2 : q.2 ≠ p.2 := fun z => nd.2.1 (by rw [← z]; exact m2)
  exact ⟨j1, j2, j3, by simp [j4, a1, b1], by simp [j5, a2, b2]⟩
theorem pair_in {T : Nat → Nat → Bool} {n : Nat} {S B : Nat → Bool} {P : List (Nat × Nat)} (h : Pairing T n S P) {x y : Nat} (hxy : x < y) (hy : y < n) (hT : T x y = true) (bx : B x = true) (bY : B y = true)
    (nx : S x = false) (ny : S y = false) (hs : ∀ i, S i = true → B i = true) : Pairing T n B ((x, y) :: P) := by
  refine ⟨fun q hq => ?_, ?_⟩
  · rcases List.mem_cons.mp hq with rfl | hq
    · exact ⟨hxy, hy, hT, bx, bY⟩
    · obtain ⟨j1, j2, j3, j4, j5⟩ := h.ok q hq
      exact ⟨j1, j2, j3, hs _ j4, hs _ j5⟩
  · show (x :: y :: ends P).Nodup
    have hin : ∀ z ∈ ends P, S z = true := fun z hz => by
      obtain ⟨q, hq, hz⟩ := mem_ends.mp hz
      obtain ⟨j1, j2, j3, j4, j5⟩ := h.ok q hq
      rcases hz with rfl | rfl
      · exact j4
      · exact j5
    rw [List.nodup_cons, List.nodup_cons]
    refine ⟨fun z => ?_, fun z => ?_, h.nd⟩
    · rcases List.mem_cons.mp z with z | z
      · omega
      · have := hin x z
        rw [nx] at this
        cases this
    · have := hin y z
      rw [ny] at this
      cases this
/-- a place more can be paired exactly if some neighbour is not wanted -/
theorem nu_place {T : Nat → Nat → Bool} (hs : ∀ x y, T x y = T y x) {n : Nat} {R B : Nat → Bool} {l : Nat} (hl : l < n) (hR : R l = false) (hB : ∀ i, B i = (R i || decide (i = l))) :
    nu T n R < nu T n B ↔ ∃ x, x < n ∧ T l x = true ∧ R x = true ∧ nu T n (del R x) = nu T n R := by
  constructor
  · intro hlt
    obtain ⟨P, hP, hlen⟩ := nu_has (T := T) n B
    by_cases hm : l ∈ ends P
    · obtain ⟨p, hp, hpl⟩ := mem_ends.mp hm
      obtain ⟨P', hl', hP'⟩ := pair_out hP hp
      obtain ⟨j1, j2, j3, j4, j5⟩ := hP.ok p hp
      have key : ∀ x, (p.1 = l ∧ p.2 = x) ∨ (p.1 = x ∧ p.2 = l) → x < n ∧ T l x = true ∧ R x = true ∧ nu T n (del R x) = nu T n R := fun x hx => by
        have hP2 : Pairing T n (del R x) P' := by
          refine hP'.up (Nat.le_refl _) fun i hi => ?_
          simp only [Bool.and_eq_true, Bool.not_eq_true', decide_eq_false_iff_not] at hi
          obtain ⟨i1, i2, i3⟩ := hi
          rw [hB] at i1
          have il : i ≠ l := by rcases hx with ⟨a, b⟩ | ⟨a, b⟩ <;> omega
          have ix : i ≠ x := by rcases hx with ⟨a, b⟩ | ⟨a, b⟩ <;> omega
          simp only [il, decide_false, Bool.or_false] at i1
          unfold del
          simp [i1, ix]
        have g1 := nu_ge hP2
        have g2 : nu T n (del R x) ≤ nu T n R := nu_mono fun i _ q => del_sub q
        have hxl : x ≠ l := by rcases hx with ⟨a, b⟩ | ⟨a, b⟩ <;> omega
        refine ⟨by rcases hx with ⟨a, b⟩ | ⟨a, b⟩ <;> omega, ?_, ?_, by omega⟩
        · rcases hx with ⟨a, b⟩ | ⟨a, b⟩
          · rw [← a, ← b]
            exact j3
          · rw [hs, ← a, ← b]
            exact j3
        · have hBx : B x = true := by
            rcases hx with ⟨a, b⟩ | ⟨a, b⟩
            · rw [← b]
              exact j5
            · rw [← a]
              exact j4
          rw [hB] at hBx
          simpa [hxl] using hBx
      rcases hpl with z | z
      · exact ⟨p.2, key _ (.inl ⟨z.symm, rfl⟩)⟩
      · exact ⟨p.1, key _ (.inr ⟨rfl, z.symm⟩)⟩
    · exfalso
      have : Pairing T n R P := ⟨fun q hq => by
        obtain ⟨j1, j2, j3, j4, j5⟩ := hP.ok q hq
        have a1 : q.1 ≠ l := fun z => hm (mem_ends.mpr ⟨q, hq, .inl z.symm⟩)
        have a2 : q.2 ≠ l := fun z => hm (mem_ends.mpr ⟨q, hq, .inr z.symm⟩)
        rw [hB] at j4 j5
        exact ⟨j1, j2, j3, by simpa [a1] using j4, by simpa [a2] using j5⟩, hP.nd⟩
      have := nu_ge this
      omega
  · rintro ⟨x, hx, hT, hRx, he⟩
    obtain ⟨P, hP, hlen⟩ := nu_has (T := T) n (del R x)
    have hxl : x ≠ l := fun z => by
      rw [z, hR] at hRx
      cases hRx
    have dx : del R x x = false := by simp [del]
    have dl : del R x l = false := by simp [del, hR]
    have sub : ∀ i, del R x i = true → B i = true := fun i hi => by
      rw [hB, del_sub hi]
      rfl
    have Bx : B x = true := by rw [hB, hRx]; rfl
    have Bl : B l = true := by rw [hB]; simp
    have : ∃ q : List (Nat × Nat), Pairing T n B q ∧ q.length = P.length + 1 := by
      rcases Nat.lt_or_gt_of_ne hxl with z | z
      · exact ⟨_, pair_in hP z hl (by rw [hs]; exact hT) Bx Bl dx dl sub, rfl⟩
      · exact ⟨_, pair_in hP z hx hT Bl Bx dl dx sub, rfl⟩
    obtain ⟨q, hq, hql⟩ := this
    have := nu_ge hq
    omega
/-- the mover of the walk wins -/
def winsB (n : Nat) (ts : List (Nat × Nat)) (w : List Nat) : Bool := decide (val n ts (restM n w) < val n ts (bothM n w (w.getLastD 0)))
theorem lastD {w : List Nat} {l : Nat} (h : w[w.length - 1]? = some l) : w.getLastD 0 = l := by
  rw [List.getLastD_eq_getLast?, List.getLast?_eq_getElem?, h]
  rfl
theorem last_snoc {w : List Nat} {x : Nat} : (w ++ [x])[(w ++ [x]).length - 1]? = some x := by simp
theorem snoc_last {w : List Nat} {x : Nat} : (w ++ [x]).getLastD 0 = x := lastD last_snoc
theorem rest_snoc {n : Nat} {w : List Nat} {x : Nat} (hx : x < n) (hn : x ∉ w) : restM n (w ++ [x]) = restM n w - 2 ^ x := by
  have hb : (restM n w).testBit x = true := by rw [rest_bit]; simp [hx, hn]
  refine Nat.eq_of_testBit_eq fun i => ?_
  rw [(sub_bit x _ hb).1 i, rest_bit, rest_bit]
  by_cases h1 : i ∈ w <;> by_cases h2 : i = x <;> simp [h1, h2]
theorem both_snoc {n : Nat} {w : List Nat} {x : Nat} (hx : x < n) (hn : x ∉ w) : bothM n (w ++ [x]) x = restM n w := by
  refine Nat.eq_of_testBit_eq fun i => ?_
  rw [both_bit, rest_bit]
  by_cases h1 : i ∈ w
  · have h2 : i ≠ x := fun z => hn (by rw [← z]; exact h1)
    simp [h1, h2]
  · by_cases h2 : i = x
    · simp [h2, hn]
    · simp [h1, h2]
theorem wins_snoc {n : Nat} {ts : List (Nat × Nat)} {w : List Nat} {x : Nat} (hx : x < n) (hn : x ∉ w) : winsB n ts (w ++ [x]) = !good n ts (restM n w) x := by
  unfold winsB good
  rw [snoc_last, rest_snoc hx hn, both_snoc hx hn]
  have hb : (restM n w).testBit x = true := by rw [rest_bit]; simp [hx, hn]
  have := nuM_sub (T := tied ts) (t := n) hb
  unfold val
  by_cases e : nuM (tied ts) n (restM n w - 2 ^ x) = nuM (tied ts) n (restM n w)
  · simp [e]
  · have : nuM (tied ts) n (restM n w - 2 ^ x) < nuM (tied ts) n (restM n w) := by omega
    simp [e, this]
theorem wins_step {n : Nat} {ts : List (Nat × Nat)} {w : List Nat} {l : Nat} (hl : l < n) (hlm : l ∈ w) (hlast : w[w.length - 1]? = some l) :
    winsB n ts w = !((free n ts w l).filter (good n ts (restM n w))).isEmpty := by
  have hb : ∀ i, (bothM n w l).testBit i = ((restM n w).testBit i || decide (i = l)) := fun i => by
    rw [both_bit, rest_bit]
    by_cases h2 : i = l
    · subst h2
      simp [hl]
    · simp [h2]
  have hR : (restM n w).testBit l = false := by rw [rest_bit]; simp [hlm]
  have key := nu_place (T := tied ts) (fun x y => tied_comm) hl hR hb
  unfold winsB
  rw [lastD hlast, Bool.eq_iff_iff]
  rw [decide_eq_true_iff]
  refine Iff.trans key ?_
  rw [Bool.not_eq_true', List.isEmpty_eq_false_iff_exists_mem]
  constructor
  · rintro ⟨x, h1, h2, h3, h4⟩
    refine ⟨x, List.mem_filter.mpr ⟨?_, ?_⟩⟩
    · rw [rest_bit] at h3
      simp only [Bool.and_eq_true, Bool.not_eq_true', decide_eq_false_iff_not, decide_eq_true_iff] at h3
      unfold free near
      rw [List.mem_filter, List.mem_filter, List.mem_range]
      refine ⟨⟨h1, ?_⟩, by simpa using h3.2⟩
      rw [tied_comm]
      exact h2
    · unfold good val nuM
      rw [decide_eq_true_iff, del_bit h3]
      exact h4
  · rintro ⟨x, hx⟩
    obtain ⟨hf, hg⟩ := List.mem_filter.mp hx
    obtain ⟨q1, q2, q3⟩ := mem_free hf
    have h3 : (restM n w).testBit x = true := by rw [rest_bit]; simp [q1, q3]
    refine ⟨x, q1, q2, h3, ?_⟩
    unfold good val nuM at hg
    rw [decide_eq_true_iff, del_bit h3] at hg
    exact hg
end Lw

set_option Elab.async false
set_option linter.all false
set_option maxRecDepth 100000
set_option maxHeartbeats 2000000
/-! P13: what the law knows -/
namespace Lw
open PySem L2 DL
def keyW (w : List Nat) : NK := (srtI (w.map fun k : Nat => (k : Int)), ((w.getLastD 0 : Nat) : Int))
def kvD (e : NK × Bool) : D × D := (kyD e.1, .bool e.2)
def kD (l : List (NK × Bool)) : D := .dict (l.map kvD)
def MemOk (n : Nat) (ts : List (Nat × Nat)) (l : List (NK × Bool)) : Prop := ∀ e ∈ l, ∀ w, WalkOk n ts w → keyW w = e.1 → e.2 = winsB n ts w
theorem good_map (l : List (NK × Bool)) : goodN (l.map kvD) = true := by
  cases l <;> rfl
def look (l : List (NK × Bool)) (k : NK) : Option Bool := (l.find? fun e => decide (e.1 = k)).map (·.2)
theorem get_map (k : NK) : ∀ l : List (NK × Bool), getN (l.map kvD) k = (look l k).map .bool
  | [] => rfl
  | p :: l => by
    have ih := get_map k l
    unfold getN look at ih ⊢
    rw [List.map_cons, List.find?_cons, List.find?_cons]
    have e0 : kyOf (kvD p).1 = some p.1 := kyOf_ky p.1
    by_cases e : p.1 = k
    · have e1 : decide (kyOf (kvD p).1 = some k) = true := decide_eq_true (by rw [e0, e])
      have e2 : decide (p.1 = k) = true := decide_eq_true e
      simp only [e1, e2, Option.map_some]
      rfl
    · have e1 : decide (kyOf (kvD p).1 = some k) = false := decide_eq_false fun z => e (by rw [e0] at z; exact Option.some.inj z)
      have e2 : decide (p.1 = k) = false := decide_eq_false e
      simp only [e1, e2]
      exact ih
theorem v_nin (k : NK) (l : List (NK × Bool)) : ninN (kyD k) (kD l) = some (.bool (!(look l k).isSome)) := by
  unfold ninN kD
  simp only [good_map, if_true, kyOf_ky, Option.map_some, get_map, Option.isSome_map]
theorem v_getD (k : NK) (l : List (NK × Bool)) : getD (kD l) (kyD k) = (look l k).map .bool := by
  unfold getD kD
  simp only [good_map, if_true, kyOf_ky, Option.bind_some, get_map]
theorem getDc_k {i : Nat} {ρ : DL.Env} {l : List (NK × Bool)} (h : ρ[i]? = some (some (kD l))) : getDc i ρ = some (l.map kvD) := by
  unfold getDc
  rw [h]
  simp only [kD, good_map, if_true]
theorem look_mem {l : List (NK × Bool)} {k : NK} {b : Bool} (h : look l k = some b) : (k, b) ∈ l := by
  unfold look at h
  obtain ⟨e, h1, h2⟩ := Option.map_eq_some_iff.mp h
  have h3 := List.mem_of_find?_eq_some h1
  have h4 := List.find?_some h1
  have h5 : e.1 = k := by simpa using h4
  rw [← h5, ← h2]
  exact h3
theorem look_app {l m : List (NK × Bool)} {k : NK} (h : look l k = none) : look (l ++ m) k = look m k := by
  unfold look at h ⊢
  rw [Option.map_eq_none_iff] at h
  rw [List.find?_append, h]
  rfl
theorem look_one {k : NK} {b : Bool} : look [(k, b)] k = some b := by simp [look]
theorem look_none {l : List (NK × Bool)} {k : NK} (h : ∀ e ∈ l, e.1 ≠ k) : look l k = none := by
  unfold look
  rw [Option.map_eq_none_iff, List.find?_eq_none]
  intro e he
  simpa using h e he
theorem srtI_len (l : List Int) : (srtI l).length = l.length := (srtI_perm l).length_eq
theorem key_len (w : List Nat) : (keyW w).1.length = w.length := by
  unfold keyW
  simp only [srtI_len, List.length_map]
theorem key_same {n : Nat} {ts : List (Nat × Nat)} {w v : List Nat} (h : keyW w = keyW v) : winsB n ts w = winsB n ts v := by
  unfold keyW at h
  rw [Prod.mk.injEq] at h
  obtain ⟨h1, h2⟩ := h
  have hl : w.getLastD 0 = v.getLastD 0 := by omega
  have hp : (w.map fun k : Nat => (k : Int)).Perm (v.map fun k : Nat => (k : Int)) := (srtI_perm _).symm.trans (by rw [h1]; exact srtI_perm _)
  have hm : ∀ i, i ∈ w ↔ i ∈ v := fun i => by
    have := hp.mem_iff (a := (i : Int))
    rw [List.mem_map, List.mem_map] at this
    constructor
    · intro h
      obtain ⟨a, q1, q2⟩ := this.mp ⟨i, h, rfl⟩
      rw [show i = a by omega]
      exact q1
    · intro h
      obtain ⟨a, q1, q2⟩ := this.mpr ⟨i, h, rfl⟩
      rw [show i = a by omega]
      exact q1
  have hr : restM n w = restM n v := Nat.eq_of_testBit_eq fun i => by simp only [rest_bit, hm]
  have hb : ∀ l, bothM n w l = bothM n v l := fun l => Nat.eq_of_testBit_eq fun i => by simp only [both_bit, hm]
  unfold winsB
  rw [hl, hr, hb]
/-- a comprehension that changes the state -/
theorem lc_st {own : List Nat} {gt : GG} {gc : GT} {ge : GE} {α : Type} {φ : α → D} (p : α → Bool) (v : α → D) (J : List α → DL.Env → Prop) (h : ∀ x r ρ, J (x :: r) ρ → ∃ ρ1 ρ2, gt ρ (φ x) = some ρ1 ∧ gc ρ1 = some (p x, ρ2) ∧ (p x = true → ge ρ2 = some (v x, ρ2)) ∧ J r (wipeE ρ2 own)) :
    ∀ (xs : List α) (ρ : DL.Env), J xs ρ → ∃ ρ', lcL own gt gc ge (xs.map φ) ρ = some ((xs.filter p).map v, ρ') ∧ J [] ρ'
  | [], ρ, hI => ⟨ρ, rfl, hI⟩
  | x :: r, ρ, hI => by
    obtain ⟨ρ1, ρ2, h1, h2, h3, h4⟩ := h x r ρ hI
    obtain ⟨ρ', q1, q2⟩ := lc_st (own := own) (gt := gt) (gc := gc) (ge := ge) (φ := φ) p v J h r (wipeE ρ2 own) h4
    rw [List.map_cons]
    cases hp : p x with
    | false =>
      refine ⟨ρ', ?_, q2⟩
      rw [List.filter_cons_of_neg (by rw [hp]; exact Bool.false_ne_true)]
      rw [hp] at h2
      simp only [lcL, h1, h2, Option.bind_some, q1]
      rfl
    | true =>
      refine ⟨ρ', ?_, q2⟩
      rw [List.filter_cons_of_pos hp]
      rw [hp] at h2
      simp only [lcL, h1, h2, Option.bind_some, h3 hp, q1, if_true, List.map_cons, Option.map_some]
end Lw

set_option Elab.async false
set_option linter.all false
set_option maxRecDepth 100000
set_option maxHeartbeats 2000000
/-! P14: _law_wins, _law_moves -/
namespace Lw
open PySem L2 DL
theorem sort_w (w : List Nat) : sortAD (uD w) = some (.list ((srtI (w.map fun k : Nat => (k : Int))).map .int)) := by
  unfold sortAD uD
  simp only [itemsD, Option.bind_some, intsOf_nD]
theorem key_eval {n : Nat} {ts : List (Nat × Nat)} {w : List Nat} {l : Nat} (hlast : w[w.length - 1]? = some l) (hl : w.length ≤ 1000000) (o2 o3 o4 o5 : Option D) :
    (sSet 3 (gTup (gCons (gUn tupleD (gUn sortAD (gVar 1))) (gCons (gBin ixD (gVar 1) (gUn negD (gC (.int 1)))) gNil)))) [some (wD n ts), some (uD w), o2, o3, o4, o5] = some (.nx [some (wD n ts), some (uD w), o2, some (kyD (keyW w)), o4, o5]) := by
  have h1 := sort_w w
  have h2 : ixD (uD w) (.int (-1)) = some (nD l) := at_last hlast
  have h3 : tupleD (.list ((srtI (w.map fun k : Nat => (k : Int))).map .int)) = some (.tuple ((srtI (w.map fun k : Nat => (k : Int))).map .int)) := rfl
  have e : kyD (keyW w) = .tuple [.tuple ((srtI (w.map fun k : Nat => (k : Int))).map .int), .int (l : Int)] := by
    unfold keyW kyD
    rw [lastD hlast]
  rw [e]
  generalize uD w = u at *
  simp [h1, h2, h3]
theorem free_eval {n : Nat} {ts : List (Nat × Nat)} (h : WebOk n ts) {w : List Nat} {l : Nat} (hlast : w[w.length - 1]? = some l) (o2 o3 o4 o5 : Option D) :
    (sSet 4 (gLc [5] (giS (gCall [none, none] m__law_near (gCons (gVar 0) (gCons (gBin ixD (gVar 1) (gUn negD (gC (.int 1)))) gNil)))) (ggName 5) (gT (gBin (inD true) (gVar 5) (gVar 1))) (gVar 5))) [some (wD n ts), some (uD w), o2, o3, o4, o5] = some (.nx [some (wD n ts), some (uD w), o2, o3, some (lD (free n ts w l)), o5]) := by
  have hn := h.hi
  have h2 : ixD (uD w) (.int (-1)) = some (nD l) := at_last hlast
  have hnear := near_ok h l
  have hlen := near_len (n := n) (ts := ts) (l := l)
  have hlen1 : (near n ts l).length ≤ 1000000 := by omega
  have hc := lc_map (own := [5]) (gt := ggName 5) (gc := gT (gBin (inD true) (gVar 5) (gVar 1))) (ge := gVar 5) (φ := nD) (fun x => !decide (x ∈ w)) nD [some (wD n ts), some (uD w), o2, o3, o4, none] (near n ts l) (by
    intro x hx
    refine ⟨[some (wD n ts), some (uD w), o2, o3, o4, some (.int x)], rfl, ?_, fun _ => by simp, rfl⟩
    have := v_inU true w x
    simp [uD, this])
  have hc' : lcL [5] (ggName 5) (gT (gBin (inD true) (gVar 5) (gVar 1))) (gVar 5) ((near n ts l).map nD) [some (wD n ts), some (uD w), o2, o3, o4, none] = some ((free n ts w l).map nD, [some (wD n ts), some (uD w), o2, o3, o4, none]) := hc
  generalize free n ts w l = fr at *
  generalize wD n ts = W at *
  generalize uD w = u at *
  have hnear' : m__law_near [W, nD l] = some (.list ((near n ts l).map nD), [W, nD l]) := hnear
  simp [lD, hnear', h2, hlen1, hc']
theorem filter_wins {n : Nat} {ts : List (Nat × Nat)} {w : List Nat} {l : Nat} : (free n ts w l).filter (fun x => !winsB n ts (w ++ [x])) = (free n ts w l).filter (good n ts (restM n w)) :=
  List.filter_congr fun x hx => by
    obtain ⟨q1, _, q3⟩ := mem_free hx
    rw [wins_snoc q1 q3, Bool.not_not]
structure Kn (n : Nat) (ts : List (Nat × Nat)) (l new : List (NK × Bool)) (d b : Nat) : Prop where
  long : ∀ e ∈ new, d ≤ e.1.1.length
  few : new.length ≤ b
  mem : MemOk n ts (l ++ new)
theorem run_of {gf : GS} {W u kl kl' d : D} {o3 o4 o5 : Option D} (h : gf [some W, some u, some kl, none, none, none] = some (.rt d [some W, some u, some kl', o3, o4, o5])) : runFn c__law_wins.ino N__law_wins.length gf [W, u, kl] = some (d, [W, u, kl']) := by
  simp [h]
theorem seq_nx {f g : GS} {ρ ρ1 : DL.Env} {o : Option Out} (h : f ρ = some (.nx ρ1)) (h2 : g ρ1 = o) : sSeq f g ρ = o := by
  rw [v_sSeq, h]
  exact h2
theorem seq_rt {f g : GS} {ρ ρ1 : DL.Env} {d : D} (h : f ρ = some (.rt d ρ1)) : sSeq f g ρ = some (.rt d ρ1) := by
  rw [v_sSeq, h]
  rfl
theorem if_yes {t : GT} {f g : GS} {ρ ρ1 : DL.Env} {o : Option Out} (h : t ρ = some (true, ρ1)) (h2 : f ρ1 = o) : sIf t f g ρ = o := by
  rw [v_sIf, h]
  exact h2
theorem if_no {t : GT} {f g : GS} {ρ ρ1 : DL.Env} {o : Option Out} (h : t ρ = some (false, ρ1)) (h2 : g ρ1 = o) : sIf t f g ρ = o := by
  rw [v_sIf, h]
  exact h2
theorem pow7 {n k : Nat} (h : k < n) : 7 ^ (n - k) = 7 * 7 ^ (n - (k + 1)) := by
  rw [show n - k = n - (k + 1) + 1 by omega, Nat.pow_succ]
  omega
/-- one more place, tried -/
structure Rc (n : Nat) (ts : List (Nat × Nat)) (m : List D → Option (D × List D)) (w : List Nat) : Prop where
  go : ∀ (x : Nat) (l : List (NK × Bool)), WalkOk n ts (w ++ [x]) → MemOk n ts l → l.length + 7 ^ (n - (w.length + 1)) ≤ 900000 →
    ∃ new, Kn n ts l new (w.length + 1) (7 ^ (n - (w.length + 1))) ∧ m [wD n ts, uD (w ++ [x]), kD l] = some (.bool (winsB n ts (w ++ [x])), [wD n ts, uD (w ++ [x]), kD (l ++ new)])
def Trk (n : Nat) (ts : List (Nat × Nat)) (w : List Nat) (l : List (NK × Bool)) (c B : Nat) (o3 o4 : Option D) (xs : List Nat) (ρ : DL.Env) : Prop :=
  ∃ new, ρ = [some (wD n ts), some (uD w), some (kD (l ++ new)), o3, o4, none] ∧ (∀ e ∈ new, w.length + 1 ≤ e.1.1.length) ∧ MemOk n ts (l ++ new) ∧ new.length + xs.length * c ≤ B ∧ ∀ x ∈ xs, WalkOk n ts (w ++ [x])
theorem try_all {n : Nat} {ts : List (Nat × Nat)} {m : List D → Option (D × List D)} {w : List Nat} {l : List (NK × Bool)} (R : Rc n ts m w) (hwl : w.length ≤ 1000) (fr : List Nat) (hfr : ∀ x ∈ fr, WalkOk n ts (w ++ [x])) (hm : MemOk n ts l)
    (hb : l.length + fr.length * 7 ^ (n - (w.length + 1)) ≤ 900000) (o3 o4 : Option D) :
    ∃ new, (∀ e ∈ new, w.length + 1 ≤ e.1.1.length) ∧ MemOk n ts (l ++ new) ∧ new.length ≤ fr.length * 7 ^ (n - (w.length + 1)) ∧
      lcL [5] (ggName 5) (gNot (gTru (gCall [none, none, some 2] m (gCons (gVar 0) (gCons (gBin addD (gVar 1) (gTup (gCons (gVar 5) gNil))) (gConsB 2 gNil)))))) (gVar 5) (fr.map nD) [some (wD n ts), some (uD w), some (kD l), o3, o4, none]
        = some ((fr.filter fun x => !winsB n ts (w ++ [x])).map nD, [some (wD n ts), some (uD w), some (kD (l ++ new)), o3, o4, none]) := by
  obtain ⟨ρ', h1, new, rfl, h2, h3, h4, _⟩ := lc_st (own := [5]) (gt := ggName 5) (gc := gNot (gTru (gCall [none, none, some 2] m (gCons (gVar 0) (gCons (gBin addD (gVar 1) (gTup (gCons (gVar 5) gNil))) (gConsB 2 gNil)))))) (ge := gVar 5) (φ := nD)
    (fun x => !winsB n ts (w ++ [x])) nD (Trk n ts w l (7 ^ (n - (w.length + 1))) (fr.length * 7 ^ (n - (w.length + 1))) o3 o4) (by
      rintro x r ρ ⟨new, rfl, q1, q2, q3, q4⟩
      rw [List.length_cons, Nat.succ_mul] at q3
      obtain ⟨new2, k, e⟩ := R.go x (l ++ new) (q4 x (by simp)) q2 (by rw [List.length_append]; omega)
      refine ⟨[some (wD n ts), some (uD w), some (kD (l ++ new)), o3, o4, some (nD x)], [some (wD n ts), some (uD w), some (kD (l ++ new ++ new2)), o3, o4, some (nD x)], rfl, ?_, fun _ => by simp, new ++ new2, ?_, ?_, ?_, ?_, fun y hy => q4 y (by simp [hy])⟩
      · have ha : addD (uD w) (.tuple [nD x]) = some (uD (w ++ [x])) := by
          unfold uD
          simp [addD, List.map_append]
          omega
        generalize winsB n ts (w ++ [x]) = b at *
        generalize uD (w ++ [x]) = u1 at *
        generalize uD w = u at *
        generalize wD n ts = W at *
        generalize kD (l ++ new) = k1 at *
        generalize kD (l ++ new ++ new2) = k2 at *
        simp [ha, e]
      · rw [List.append_assoc]
        rfl
      · intro e' he
        rcases List.mem_append.mp he with z | z
        · exact q1 e' z
        · exact k.long e' z
      · rw [← List.append_assoc]
        exact k.mem
      · have := k.few
        rw [List.length_append]
        omega) fr [some (wD n ts), some (uD w), some (kD l), o3, o4, none] ⟨[], by rw [List.append_nil], by simp, by simpa using hm, by simp, hfr⟩
  exact ⟨new, h2, h3, by simpa using h4, h1⟩
theorem set_key {ge : GE} {W u : D} {l l2 : List (NK × Bool)} {k : NK} {o4 o5 : Option D} {b : Bool} (h : ge [some W, some u, some (kD l), some (kyD k), o4, o5] = some (.bool b, [some W, some u, some (kD l2), some (kyD k), o4, o5])) (hk : look l2 k = none) (hl : l2.length < 1000000) :
    sSetKey 2 (gVar 3) ge [some W, some u, some (kD l), some (kyD k), o4, o5] = some (.nx [some W, some u, some (kD (l2 ++ [(k, b)])), some (kyD k), o4, o5]) := by
  unfold sSetKey
  have h1 : getDc 2 [some W, some u, some (kD l), some (kyD k), o4, o5] = some (l.map kvD) := getDc_k rfl
  have h2 : getDc 2 [some W, some u, some (kD l2), some (kyD k), o4, o5] = some (l2.map kvD) := getDc_k rfl
  have h3 : gVar 3 [some W, some u, some (kD l2), some (kyD k), o4, o5] = some (kyD k, [some W, some u, some (kD l2), some (kyD k), o4, o5]) := rfl
  have h4 : asB (.bool b) = some b := rfl
  have h5 : getN (l2.map kvD) k = none := by rw [get_map, hk]; rfl
  have h6 : (l2.map kvD).length < lim := by rw [List.length_map]; exact hl
  simp only [h1, h, h3, h4, kyOf_ky, h2, Option.bind_some, h5, h6, and_self, if_true]
  have e : l2.map kvD ++ [(kyD k, .bool b)] = (l2 ++ [(k, b)]).map kvD := by
    rw [List.map_append]
    rfl
  rw [e]
  rfl
theorem wins_rec {n : Nat} {ts : List (Nat × Nat)} (h : WebOk n ts) (hn6 : n ≤ 6) : ∀ (dd : Nat) (w : List Nat) (l : List (NK × Bool)), WalkOk n ts w → n - w.length < dd → MemOk n ts l → l.length + 7 ^ (n - w.length) ≤ 900000 →
    ∃ new, Kn n ts l new w.length (7 ^ (n - w.length)) ∧ mr__law_wins dd [wD n ts, uD w, kD l] = some (.bool (winsB n ts w), [wD n ts, uD w, kD (l ++ new)])
  | 0, w, l, _, hd, _, _ => absurd hd (Nat.not_lt_zero _)
  | dd + 1, w, l, hw, hd, hm, hb => by
    obtain ⟨la, hlast⟩ := last_of hw.ne
    have hlm : la ∈ w := List.mem_of_getElem? hlast
    have hll := hw.lt la hlm
    have hwl := hw.len
    have hw1 : w.length ≤ 1000000 := by omega
    have k1 := key_eval (n := n) (ts := ts) hlast hw1 (some (kD l)) none none none
    have tst : (gT (gBin ninN (gVar 3) (gVar 2))) [some (wD n ts), some (uD w), some (kD l), some (kyD (keyW w)), none, none] = some (!(look l (keyW w)).isSome, [some (wD n ts), some (uD w), some (kD l), some (kyD (keyW w)), none, none]) := by
      simp [v_nin]
    unfold mr__law_wins gf__law_wins
    generalize hbig : (sSeq (sSet 4 (gLc [5] (giS (gCall [none, none] m__law_near (gCons (gVar 0) (gCons (gBin ixD (gVar 1) (gUn negD (gC (.int 1)))) gNil)))) (ggName 5) (gT (gBin (inD true) (gVar 5) (gVar 1))) (gVar 5))) (sSetKey 2 (gVar 3) (gBin neD (gLc [5] (giS (gVar 4)) (ggName 5) (gNot (gTru (gCall [none, none, some 2] (mr__law_wins dd) (gCons (gVar 0) (gCons (gBin addD (gVar 1) (gTup (gCons (gVar 5) gNil))) (gConsB 2 gNil)))))) (gVar 5)) (gLst gNil)))) = big
    cases hk : look l (keyW w) with
    | some b =>
      rw [hk] at tst
      have hbw : b = winsB n ts w := hm _ (look_mem hk) w hw rfl
      refine ⟨[], ⟨fun e he => by simp at he, by simp, by simpa using hm⟩, ?_⟩
      have rt : (sRet (gBin getD (gVar 2) (gVar 3))) [some (wD n ts), some (uD w), some (kD l), some (kyD (keyW w)), none, none] = some (.rt (.bool b) [some (wD n ts), some (uD w), some (kD l), some (kyD (keyW w)), none, none]) := by
        simp [v_getD, hk]
      subst hbw
      rw [List.append_nil]
      exact run_of (seq_nx k1 (seq_nx (if_no tst rfl) rt))
    | none =>
      rw [hk] at tst
      have f1 := free_eval h hlast (some (kD l)) (some (kyD (keyW w))) none none
      have hfl := free_len (n := n) (ts := ts) (w := w) (l := la)
      have hfr : ∀ x ∈ free n ts w la, WalkOk n ts (w ++ [x]) := fun x hx => by
        obtain ⟨q1, q2, q3⟩ := mem_free hx
        exact hw.snoc hlast q1 q3 q2
      have hsz : (free n ts w la).length * 7 ^ (n - (w.length + 1)) + 1 ≤ 7 ^ (n - w.length) := by
        cases hf : free n ts w la with
        | nil =>
          simp only [List.length_nil, Nat.zero_mul, Nat.zero_add]
          exact Nat.pos_of_ne_zero (by simp)
        | cons x r =>
          have h1 := (hfr x (by rw [hf]; simp)).len
          rw [List.length_append, List.length_cons, List.length_nil] at h1
          rw [pow7 (show w.length < n by omega), ← hf]
          have h2 : (free n ts w la).length * 7 ^ (n - (w.length + 1)) ≤ 6 * 7 ^ (n - (w.length + 1)) := Nat.mul_le_mul_right _ (by omega)
          have h3 : 0 < 7 ^ (n - (w.length + 1)) := Nat.pos_of_ne_zero (by simp)
          omega
      have R : Rc n ts (mr__law_wins dd) w := ⟨fun x l' hw' hm' hb' => by
        have h1 := hw'.len
        rw [List.length_append, List.length_cons, List.length_nil] at h1
        have := wins_rec h hn6 dd (w ++ [x]) l' hw' (by rw [List.length_append, List.length_cons, List.length_nil]; omega) hm' (by rw [List.length_append, List.length_cons, List.length_nil]; exact hb')
        rw [List.length_append, List.length_cons, List.length_nil] at this
        exact this⟩
      obtain ⟨new, g1, g2, g3, g4⟩ := try_all R (by omega) (free n ts w la) hfr hm (by omega) (some (kyD (keyW w))) (some (lD (free n ts w la)))
      rw [filter_wins] at g4
      have hlk : look (l ++ new) (keyW w) = none := by
        rw [look_app hk]
        refine look_none fun e he z => ?_
        have h1 := g1 e he
        rw [z, key_len] at h1
        omega
      have hfl1 : (free n ts w la).length ≤ 1000000 := by omega
      have hv : ((free n ts w la).filter (good n ts (restM n w)) = []) = (((free n ts w la).filter (good n ts (restM n w))).isEmpty = true) := by rw [List.isEmpty_iff]
      have hge : (gBin neD (gLc [5] (giS (gVar 4)) (ggName 5) (gNot (gTru (gCall [none, none, some 2] (mr__law_wins dd) (gCons (gVar 0) (gCons (gBin addD (gVar 1) (gTup (gCons (gVar 5) gNil))) (gConsB 2 gNil)))))) (gVar 5)) (gLst gNil)) [some (wD n ts), some (uD w), some (kD l), some (kyD (keyW w)), some (lD (free n ts w la)), none]
          = some (.bool (winsB n ts w), [some (wD n ts), some (uD w), some (kD (l ++ new)), some (kyD (keyW w)), some (lD (free n ts w la)), none]) := by
        have hne := v_neL ((free n ts w la).filter (good n ts (restM n w))) []
        rw [wins_step hll hlm hlast]
        have hb2 : (!decide ((free n ts w la).filter (good n ts (restM n w)) = [])) = !((free n ts w la).filter (good n ts (restM n w))).isEmpty := by
          cases (free n ts w la).filter (good n ts (restM n w)) <;> rfl
        rw [hb2] at hne
        generalize (free n ts w la).filter (good n ts (restM n w)) = fg at *
        generalize free n ts w la = fr at *
        generalize kD l = k1 at *
        generalize kD (l ++ new) = k2 at *
        generalize kyD (keyW w) = ky at *
        generalize wD n ts = W at *
        generalize uD w = u at *
        generalize gNot (gTru (gCall [none, none, some 2] (mr__law_wins dd) (gCons (gVar 0) (gCons (gBin addD (gVar 1) (gTup (gCons (gVar 5) gNil))) (gConsB 2 gNil))))) = gc at *
        simp only [lD] at g4 ⊢
        simp only [List.map_nil] at hne
        simp [g4, hfl1, hne]
      have st := set_key hge hlk (by rw [List.length_append]; omega)
      refine ⟨new ++ [(keyW w, winsB n ts w)], ⟨fun e he => ?_, ?_, ?_⟩, ?_⟩
      · rcases List.mem_append.mp he with z | z
        · have := g1 e z
          omega
        · rw [List.mem_singleton.mp z, key_len]
          exact Nat.le_refl _
      · rw [List.length_append, List.length_cons, List.length_nil]
        omega
      · intro e he w' hw' hke
        rw [← List.append_assoc] at he
        rcases List.mem_append.mp he with z | z
        · exact g2 e z w' hw' hke
        · rw [List.mem_singleton.mp z] at hke ⊢
          exact (key_same hke).symm
      · subst hbig
        rw [← List.append_assoc]
        have rt : (sRet (gBin getD (gVar 2) (gVar 3))) [some (wD n ts), some (uD w), some (kD (l ++ new ++ [(keyW w, winsB n ts w)])), some (kyD (keyW w)), some (lD (free n ts w la)), none] = some (.rt (.bool (winsB n ts w)) [some (wD n ts), some (uD w), some (kD (l ++ new ++ [(keyW w, winsB n ts w)])), some (kyD (keyW w)), some (lD (free n ts w la)), none]) := by
          have : getD (kD (l ++ new ++ [(keyW w, winsB n ts w)])) (kyD (keyW w)) = some (.bool (winsB n ts w)) := by
            rw [v_getD, look_app hlk, look_one]
            rfl
          generalize kD (l ++ new ++ [(keyW w, winsB n ts w)]) = kk at this ⊢
          simp [this]
        exact run_of (seq_nx k1 (seq_nx (if_yes tst (seq_nx f1 st)) rt))
end Lw

set_option Elab.async false
set_option linter.all false
set_option maxRecDepth 100000
set_option maxHeartbeats 2000000
/-! P15: the law's two functions, from outside -/
namespace Lw
open PySem L2 DL
theorem pow75 {k : Nat} (h : k ≤ 5) : 7 ^ k ≤ 16807 := by
  have : (7 : Nat) ^ k ≤ 7 ^ 5 := Nat.pow_le_pow_right (by omega) h
  simpa using this
theorem pow74 {k : Nat} (h : k ≤ 4) : 7 ^ k ≤ 2401 := by
  have : (7 : Nat) ^ k ≤ 7 ^ 4 := Nat.pow_le_pow_right (by omega) h
  simpa using this
theorem WalkOk.pos {n : Nat} {ts : List (Nat × Nat)} {w : List Nat} (h : WalkOk n ts w) : 1 ≤ w.length := List.length_pos_iff.mpr h.ne
theorem wins_ok {n : Nat} {ts : List (Nat × Nat)} (h : WebOk n ts) (hn6 : n ≤ 6) {w : List Nat} (hw : WalkOk n ts w) {l : List (NK × Bool)} (hm : MemOk n ts l) (hb : l.length + 16807 ≤ 900000) :
    ∃ l2, MemOk n ts l2 ∧ l2.length ≤ l.length + 16807 ∧ m__law_wins [wD n ts, uD w, kD l] = some (.bool (winsB n ts w), [wD n ts, uD w, kD l2]) := by
  have h1 := hw.pos
  have h2 : 7 ^ (n - w.length) ≤ 16807 := pow75 (by omega)
  obtain ⟨new, k, e⟩ := wins_rec h hn6 24 w l hw (by omega) hm (by omega)
  exact ⟨l ++ new, k.mem, by have := k.few; rw [List.length_append]; omega, e⟩
def Tr4 (n : Nat) (ts : List (Nat × Nat)) (w : List Nat) (l : List (NK × Bool)) (c B : Nat) (o3 : Option D) (xs : List Nat) (ρ : DL.Env) : Prop :=
  ∃ new, ρ = [some (wD n ts), some (uD w), some (kD (l ++ new)), o3, none] ∧ (∀ e ∈ new, w.length + 1 ≤ e.1.1.length) ∧ MemOk n ts (l ++ new) ∧ new.length + xs.length * c ≤ B ∧ ∀ x ∈ xs, WalkOk n ts (w ++ [x])
theorem try_all4 {n : Nat} {ts : List (Nat × Nat)} {m : List D → Option (D × List D)} {w : List Nat} {l : List (NK × Bool)} (R : Rc n ts m w) (hwl : w.length ≤ 1000) (fr : List Nat) (hfr : ∀ x ∈ fr, WalkOk n ts (w ++ [x])) (hm : MemOk n ts l)
    (hb : l.length + fr.length * 7 ^ (n - (w.length + 1)) ≤ 900000) (o3 : Option D) :
    ∃ new, (∀ e ∈ new, w.length + 1 ≤ e.1.1.length) ∧ MemOk n ts (l ++ new) ∧ new.length ≤ fr.length * 7 ^ (n - (w.length + 1)) ∧
      lcL [4] (ggName 4) (gNot (gTru (gCall [none, none, some 2] m (gCons (gVar 0) (gCons (gBin addD (gVar 1) (gTup (gCons (gVar 4) gNil))) (gConsB 2 gNil)))))) (gVar 4) (fr.map nD) [some (wD n ts), some (uD w), some (kD l), o3, none]
        = some ((fr.filter fun x => !winsB n ts (w ++ [x])).map nD, [some (wD n ts), some (uD w), some (kD (l ++ new)), o3, none]) := by
  obtain ⟨ρ', h1, new, rfl, h2, h3, h4, _⟩ := lc_st (own := [4]) (gt := ggName 4) (gc := gNot (gTru (gCall [none, none, some 2] m (gCons (gVar 0) (gCons (gBin addD (gVar 1) (gTup (gCons (gVar 4) gNil))) (gConsB 2 gNil)))))) (ge := gVar 4) (φ := nD)
    (fun x => !winsB n ts (w ++ [x])) nD (Tr4 n ts w l (7 ^ (n - (w.length + 1))) (fr.length * 7 ^ (n - (w.length + 1))) o3) (by
      rintro x r ρ ⟨new, rfl, q1, q2, q3, q4⟩
      rw [List.length_cons, Nat.succ_mul] at q3
      obtain ⟨new2, k, e⟩ := R.go x (l ++ new) (q4 x (by simp)) q2 (by rw [List.length_append]; omega)
      refine ⟨[some (wD n ts), some (uD w), some (kD (l ++ new)), o3, some (nD x)], [some (wD n ts), some (uD w), some (kD (l ++ new ++ new2)), o3, some (nD x)], rfl, ?_, fun _ => by simp, new ++ new2, ?_, ?_, ?_, ?_, fun y hy => q4 y (by simp [hy])⟩
      · have ha : addD (uD w) (.tuple [nD x]) = some (uD (w ++ [x])) := by
          unfold uD
          simp [addD, List.map_append]
          omega
        generalize winsB n ts (w ++ [x]) = b at *
        generalize uD (w ++ [x]) = u1 at *
        generalize uD w = u at *
        generalize wD n ts = W at *
        generalize kD (l ++ new) = k1 at *
        generalize kD (l ++ new ++ new2) = k2 at *
        simp [ha, e]
      · rw [List.append_assoc]
        rfl
      · intro e' he
        rcases List.mem_append.mp he with z | z
        · exact q1 e' z
        · exact k.long e' z
      · rw [← List.append_assoc]
        exact k.mem
      · have := k.few
        rw [List.length_append]
        omega) fr [some (wD n ts), some (uD w), some (kD l), o3, none] ⟨[], by rw [List.append_nil], by simp, by simpa using hm, by simp, hfr⟩
  exact ⟨new, h2, h3, by simpa using h4, h1⟩
theorem moves_ok {n : Nat} {ts : List (Nat × Nat)} (h : WebOk n ts) (hn6 : n ≤ 6) {w : List Nat} (hw : WalkOk n ts w) {la : Nat} (hlast : w[w.length - 1]? = some la) {l : List (NK × Bool)} (hm : MemOk n ts l) (hb : l.length + 16807 ≤ 900000) :
    ∃ l2, MemOk n ts l2 ∧ l2.length ≤ l.length + 16807 ∧ m__law_moves [wD n ts, uD w, kD l] = some (lD ((free n ts w la).filter (good n ts (restM n w))), [wD n ts, uD w, kD l2]) := by
  have h1 := hw.pos
  have hwl := hw.len
  have hfl := free_len (n := n) (ts := ts) (w := w) (l := la)
  have hfr : ∀ x ∈ free n ts w la, WalkOk n ts (w ++ [x]) := fun x hx => by
    obtain ⟨q1, q2, q3⟩ := mem_free hx
    exact hw.snoc hlast q1 q3 q2
  have hc : 7 ^ (n - (w.length + 1)) ≤ 2401 := pow74 (by omega)
  have hcc : (free n ts w la).length * 7 ^ (n - (w.length + 1)) ≤ 6 * 2401 := Nat.mul_le_mul (by omega) hc
  have R : Rc n ts m__law_wins w := ⟨fun x l' hw' hm' hb' => by
    have h1 := hw'.len
    rw [List.length_append, List.length_cons, List.length_nil] at h1
    have := wins_rec h hn6 24 (w ++ [x]) l' hw' (by rw [List.length_append, List.length_cons, List.length_nil]; omega) hm' (by rw [List.length_append, List.length_cons, List.length_nil]; exact hb')
    rw [List.length_append, List.length_cons, List.length_nil] at this
    exact this⟩
  obtain ⟨new, g1, g2, g3, g4⟩ := try_all4 R (by omega) (free n ts w la) hfr hm (by omega) (some (lD (free n ts w la)))
  rw [filter_wins] at g4
  refine ⟨l ++ new, g2, by rw [List.length_append]; omega, ?_⟩
  have h2 : ixD (uD w) (.int (-1)) = some (nD la) := at_last hlast
  have hnear := near_ok h la
  have hlen := near_len (n := n) (ts := ts) (l := la)
  have hlen1 : (near n ts la).length ≤ 1000000 := by omega
  have hfl1 : (free n ts w la).length ≤ 1000000 := by omega
  have hcm := lc_map (own := [4]) (gt := ggName 4) (gc := gT (gBin (inD true) (gVar 4) (gVar 1))) (ge := gVar 4) (φ := nD) (fun x => !decide (x ∈ w)) nD [some (wD n ts), some (uD w), some (kD l), none, none] (near n ts la) (by
    intro x hx
    refine ⟨[some (wD n ts), some (uD w), some (kD l), none, some (.int x)], rfl, ?_, fun _ => by simp, rfl⟩
    have := v_inU true w x
    simp [uD, this])
  have hc' : lcL [4] (ggName 4) (gT (gBin (inD true) (gVar 4) (gVar 1))) (gVar 4) ((near n ts la).map nD) [some (wD n ts), some (uD w), some (kD l), none, none] = some ((free n ts w la).map nD, [some (wD n ts), some (uD w), some (kD l), none, none]) := hcm
  unfold m__law_moves gf__law_moves
  generalize (free n ts w la).filter (good n ts (restM n w)) = fg at *
  generalize free n ts w la = fr at *
  generalize kD l = k1 at *
  generalize kD (l ++ new) = k2 at *
  generalize wD n ts = W at *
  generalize uD w = u at *
  have hnear' : m__law_near [W, nD la] = some (.list ((near n ts la).map nD), [W, nD la]) := hnear
  generalize gNot (gTru (gCall [none, none, some 2] m__law_wins (gCons (gVar 0) (gCons (gBin addD (gVar 1) (gTup (gCons (gVar 4) gNil))) (gConsB 2 gNil))))) = gc at *
  simp only [lD] at g4 ⊢
  simp [hnear', h2, hlen1, hc', g4, hfl1]
end Lw

set_option Elab.async false
set_option linter.all false
set_option maxRecDepth 100000
set_option maxHeartbeats 4000000
namespace Lw
open PySem L2 DL
@[simp] theorem v_perm10 {a b : D} : permL .none [1, 0] [a, b] = [b, a] := rfl
@[simp] theorem v_perm0 {a : D} : permL .none [0] [a] = [a] := rfl
theorem neB (b : Bool) : neD (.bool b) (.bool b) = some (.bool false) := by
  cases b <;> rfl
theorem neN : neD (.list []) (.list []) = some (.bool false) := rfl
theorem nums {o0 o1 o2 o3 o4 o5 o6 o7 o8 o9 o10 : Option D} (l : List Nat) :
    lcL [11] (ggName 11) (gNot (gTru (gCall [none] m__law_is_number (gCons (gVar 11) gNil)))) (gVar 11) (l.map nD) [o0, o1, o2, o3, o4, o5, o6, o7, o8, o9, o10, none] = some ([], [o0, o1, o2, o3, o4, o5, o6, o7, o8, o9, o10, none]) := by
  have hc := lc_map (own := [11]) (gt := ggName 11) (gc := gNot (gTru (gCall [none] m__law_is_number (gCons (gVar 11) gNil)))) (ge := gVar 11) (φ := nD) (fun _ => false) nD [o0, o1, o2, o3, o4, o5, o6, o7, o8, o9, o10, none] l (by
    intro z _
    refine ⟨[o0, o1, o2, o3, o4, o5, o6, o7, o8, o9, o10, some (nD z)], rfl, ?_, fun h => (by cases h), rfl⟩
    have := is_number_ok (z : Int)
    simp [this])
  rw [hc, List.filter_eq_nil_iff.mpr (by simp)]
  rfl
theorem sq65 {f g : GS} {ρ ρ1 : DL.Env} (h : f ρ = some (.nx ρ1)) : sSeq f g ρ = g ρ1 := by
  simp [h]
theorem mover_ok {n : Nat} {ts : List (Nat × Nat)} (h : WebOk n ts) {w : List Nat} (hw : WalkOk n ts w) {l : Nat} (hlast : w[w.length - 1]? = some l) : m_mover_wins [wD n ts, uD w] = some (.bool (winsB n ts w), [wD n ts, uD w]) := by
  rw [mover_wins_ok h hw hlast]
  unfold winsB
  rw [lastD hlast]
noncomputable abbrev lpB : GS := (sSeq (sSet 6 (gCall [none, none] m_mover_wins (gCons (gVar 2) (gCons (gVar 5) gNil)))) (sSeq (sIf (gOr (gNot (gTru (gUn (isiD "bool") (gVar 6)))) (gT (gBin neD (gVar 6) (gCall [none, none, some 3] m__law_wins (gCons (gVar 2) (gCons (gVar 5) (gConsB 3 gNil))))))) (sRet (gC (.bool false))) sNil) (sSeq (sSet 7 (gLO (gCall [none, none] m_winning_moves (gCons (gVar 2) (gCons (gVar 5) gNil))))) (sSeq (sSet 8 (gCall [none, none, some 3] m__law_moves (gCons (gVar 2) (gCons (gVar 5) (gConsB 3 gNil))))) (sSeq (sIf (gOr (gNot (gTru (gUn (isiD "list") (gVar 7)))) (gOr (gT (gBin neD (gLc [11] (giS (gVar 7)) (ggName 11) (gNot (gTru (gCall [none] m__law_is_number (gCons (gVar 11) gNil)))) (gVar 11)) (gLst gNil))) (gT (gBin neD (gVar 7) (gVar 8))))) (sRet (gC (.bool false))) sNil) (sSeq (sExpr (gApp 7 (gBin ixD (gVar 5) (gC (.int 0))))) (sIf (gOr (gT (gBin neD (gLO (gCallK [1, 0] m_winning_moves (gCons (gVar 5) (gCons (gVar 2) gNil)))) (gVar 8))) (gT (gBin neD (gCallK [1, 0] m_mover_wins (gCons (gVar 5) (gCons (gVar 2) gNil))) (gBin neD (gVar 8) (gLst gNil))))) (sRet (gC (.bool false))) sNil)))))))
theorem loop_body {n : Nat} {ts : List (Nat × Nat)} (h : WebOk n ts) (hn6 : n ≤ 6) {w : List Nat} (hw : WalkOk n ts w) {l : List (NK × Bool)} (hm : MemOk n ts l) (hb : l.length + 33614 ≤ 900000) (SC s WS p6 p7 p8 o9 o10 : Option D) :
    ∃ l2 q6 q7 q8, MemOk n ts l2 ∧ l2.length ≤ l.length + 33614 ∧ lpB [SC, s, some (wD n ts), some (kD l), WS, some (uD w), p6, p7, p8, o9, o10, none] = some (.nx [SC, s, some (wD n ts), some (kD l2), WS, some (uD w), q6, q7, q8, o9, o10, none]) := by
  obtain ⟨la, hlast⟩ := last_of hw.ne
  have hlm : la ∈ w := List.mem_of_getElem? hlast
  have hll := hw.lt la hlm
  have e1 := mover_ok h hw hlast
  obtain ⟨l2, m2, b2, e2⟩ := wins_ok h hn6 hw hm (by omega)
  have e3 := winning_moves_ok h hw hlast
  obtain ⟨l3, m3, b3, e4⟩ := moves_ok h hn6 hw hlast m2 (by omega)
  have hstep := wins_step (ts := ts) hll hlm hlast
  have hfl := free_len (n := n) (ts := ts) (w := w) (l := la)
  have hfl2 : ((free n ts w la).filter (good n ts (restM n w))).length ≤ (free n ts w la).length := List.length_filter_le _ _
  have hml : ((free n ts w la).filter (good n ts (restM n w))).length ≤ 1000000 := by omega
  have hml2 : ((free n ts w la).filter (good n ts (restM n w))).length ≤ 999999 := by omega
  have hnum := fun (o0 o1 o2 o3 o4 o5 o6 o7 o8 o9 o10 : Option D) => nums (o0 := o0) (o1 := o1) (o2 := o2) (o3 := o3) (o4 := o4) (o5 := o5) (o6 := o6) (o7 := o7) (o8 := o8) (o9 := o9) (o10 := o10) ((free n ts w la).filter (good n ts (restM n w)))
  have neL : neD (.list (((free n ts w la).filter (good n ts (restM n w))).map nD)) (.list (((free n ts w la).filter (good n ts (restM n w))).map nD)) = some (.bool false) := by
    rw [v_neL]
    simp
  have hne : neD (.list (((free n ts w la).filter (good n ts (restM n w))).map nD)) (.list []) = some (.bool (winsB n ts w)) := by
    have := v_neL ((free n ts w la).filter (good n ts (restM n w))) []
    rw [hstep]
    refine Eq.trans this ?_
    cases (free n ts w la).filter (good n ts (restM n w)) <;> rfl
  have hx0 : ∃ x0, ixD (uD w) (.int 0) = some (nD x0) := by
    obtain ⟨a, r, rfl⟩ := List.exists_cons_of_ne_nil hw.ne
    exact ⟨a, atm (f := nD) (l := a :: r) (k := 0) rfl⟩
  obtain ⟨x0, hx0⟩ := hx0
  generalize nD x0 = x0 at *
  have neB := neB (winsB n ts w)
  have hmlM : (((free n ts w la).filter (good n ts (restM n w))).map nD).length ≤ 1000000 := by rw [List.length_map]; exact hml
  have hmlM2 : (((free n ts w la).filter (good n ts (restM n w))).map nD).length ≤ 999999 := by rw [List.length_map]; exact hml2
  clear hml hml2 hfl2
  unfold lD at e3 e4
  generalize ((free n ts w la).filter (good n ts (restM n w))).map nD = M at *
  generalize hbw : winsB n ts w = b at *
  refine ⟨l3, some (.bool b), some (.list (M ++ [x0])), some (.list M), m3, by omega, ?_⟩
  generalize kD l = K1 at *
  generalize kD l2 = K2 at *
  generalize kD l3 = K3 at *
  generalize wD n ts = W at *
  generalize uD w = u at *
  have hml := hmlM
  have hml2 := hmlM2
  have t0 : (sSet 6 (gCall [none, none] m_mover_wins (gCons (gVar 2) (gCons (gVar 5) gNil)))) [SC, s, some W, some K1, WS, some u, p6, p7, p8, o9, o10, none] = some (.nx [SC, s, some W, some K1, WS, some u, some (.bool b), p7, p8, o9, o10, none]) := by
    simp [e1]
  have t1 : (sIf (gOr (gNot (gTru (gUn (isiD "bool") (gVar 6)))) (gT (gBin neD (gVar 6) (gCall [none, none, some 3] m__law_wins (gCons (gVar 2) (gCons (gVar 5) (gConsB 3 gNil))))))) (sRet (gC (.bool false))) sNil) [SC, s, some W, some K1, WS, some u, some (.bool b), p7, p8, o9, o10, none] = some (.nx [SC, s, some W, some K2, WS, some u, some (.bool b), p7, p8, o9, o10, none]) := by
    simp [e2, neB]
  have t2 : (sSet 7 (gLO (gCall [none, none] m_winning_moves (gCons (gVar 2) (gCons (gVar 5) gNil))))) [SC, s, some W, some K2, WS, some u, some (.bool b), p7, p8, o9, o10, none] = some (.nx [SC, s, some W, some K2, WS, some u, some (.bool b), some (.list M), p8, o9, o10, none]) := by
    simp [e3]
  have t3 : (sSet 8 (gCall [none, none, some 3] m__law_moves (gCons (gVar 2) (gCons (gVar 5) (gConsB 3 gNil))))) [SC, s, some W, some K2, WS, some u, some (.bool b), some (.list M), p8, o9, o10, none] = some (.nx [SC, s, some W, some K3, WS, some u, some (.bool b), some (.list M), some (.list M), o9, o10, none]) := by
    simp [e4]
  have t4 : (sIf (gOr (gNot (gTru (gUn (isiD "list") (gVar 7)))) (gOr (gT (gBin neD (gLc [11] (giS (gVar 7)) (ggName 11) (gNot (gTru (gCall [none] m__law_is_number (gCons (gVar 11) gNil)))) (gVar 11)) (gLst gNil))) (gT (gBin neD (gVar 7) (gVar 8))))) (sRet (gC (.bool false))) sNil) [SC, s, some W, some K3, WS, some u, some (.bool b), some (.list M), some (.list M), o9, o10, none] = some (.nx [SC, s, some W, some K3, WS, some u, some (.bool b), some (.list M), some (.list M), o9, o10, none]) := by
    simp [hnum, hml, neL, neN]
  have t5 : (sExpr (gApp 7 (gBin ixD (gVar 5) (gC (.int 0))))) [SC, s, some W, some K3, WS, some u, some (.bool b), some (.list M), some (.list M), o9, o10, none] = some (.nx [SC, s, some W, some K3, WS, some u, some (.bool b), some (.list (M ++ [x0])), some (.list M), o9, o10, none]) := by
    simp [hx0, hml]
  have t6 : (sIf (gOr (gT (gBin neD (gLO (gCallK [1, 0] m_winning_moves (gCons (gVar 5) (gCons (gVar 2) gNil)))) (gVar 8))) (gT (gBin neD (gCallK [1, 0] m_mover_wins (gCons (gVar 5) (gCons (gVar 2) gNil))) (gBin neD (gVar 8) (gLst gNil))))) (sRet (gC (.bool false))) sNil) [SC, s, some W, some K3, WS, some u, some (.bool b), some (.list (M ++ [x0])), some (.list M), o9, o10, none] = some (.nx [SC, s, some W, some K3, WS, some u, some (.bool b), some (.list (M ++ [x0])), some (.list M), o9, o10, none]) := by
    simp [e3, e1, neL, hne, neB]
  exact Eq.trans (by unfold lpB; rw [sq65 t0, sq65 t1, sq65 t2, sq65 t3, sq65 t4, sq65 t5]) t6
end Lw

set_option Elab.async false
set_option linter.all false
set_option maxRecDepth 100000
set_option maxHeartbeats 4000000
namespace Lw
open PySem L2 DL
theorem v_eqU (l : List Nat) : eqD (.tuple (l.map nD)) (.tuple (l.map nD)) = some (.bool true) := by
  unfold eqD
  rw [if_pos ⟨(shaped_ints (fun k : Nat => (k : Int)) l).2, (shaped_ints (fun k : Nat => (k : Int)) l).2⟩]
  show some (PyData.bool (PyData.eqvAll _ _)) = _
  rw [eqv_nats]
  simp
theorem walk_one {n : Nat} {ts : List (Nat × Nat)} {x : Nat} (hx : x < n) : WalkOk n ts [x] := ⟨by simp, by simp, fun y hy => by
    have : y = x := by simpa using hy
    omega, fun k hk => by simp at hk⟩
theorem all_rest {n : Nat} : restM n [] = 2 ^ n - 1 := Nat.eq_of_testBit_eq fun i => by
  rw [rest_bit, all_bit]
  simp
theorem wins_one {n : Nat} {ts : List (Nat × Nat)} {x : Nat} (hx : x < n) : winsB n ts [x] = !good n ts (2 ^ n - 1) x := by
  have := wins_snoc (n := n) (ts := ts) (w := []) hx (by simp)
  rw [all_rest] at this
  exact this
def Tst (n : Nat) (ts : List (Nat × Nat)) (SC s WS o5 o6 o7 o8 o9 o10 : Option D) (xs : List Nat) (ρ : DL.Env) : Prop :=
  ∃ l, ρ = [SC, s, some (wD n ts), some (kD l), WS, o5, o6, o7, o8, o9, o10, none] ∧ MemOk n ts l ∧ l.length + xs.length * 16807 ≤ 883193 ∧ ∀ x ∈ xs, x < n
theorem starts_lc {n : Nat} {ts : List (Nat × Nat)} (h : WebOk n ts) (hn6 : n ≤ 6) {l : List (NK × Bool)} (hm : MemOk n ts l) (hb : l.length + 100842 ≤ 883193) (SC s WS o5 o6 o7 o8 o9 o10 : Option D) :
    ∃ l2, lcL [11] (ggName 11) (gNot (gTru (gCall [none, none, some 3] m__law_wins (gCons (gVar 2) (gCons (gTup (gCons (gVar 11) gNil)) (gConsB 3 gNil)))))) (gVar 11) ((List.range n).map nD) [SC, s, some (wD n ts), some (kD l), WS, o5, o6, o7, o8, o9, o10, none]
      = some (((List.range n).filter (good n ts (2 ^ n - 1))).map nD, [SC, s, some (wD n ts), some (kD l2), WS, o5, o6, o7, o8, o9, o10, none]) := by
  have hf : (List.range n).filter (good n ts (2 ^ n - 1)) = (List.range n).filter (fun x => !winsB n ts [x]) := List.filter_congr fun x hx => by
    rw [wins_one (List.mem_range.mp hx), Bool.not_not]
  rw [hf]
  obtain ⟨ρ', h1, l2, rfl, _⟩ := lc_st (own := [11]) (gt := ggName 11) (gc := gNot (gTru (gCall [none, none, some 3] m__law_wins (gCons (gVar 2) (gCons (gTup (gCons (gVar 11) gNil)) (gConsB 3 gNil)))))) (ge := gVar 11) (φ := nD)
    (fun x => !winsB n ts [x]) nD (Tst n ts SC s WS o5 o6 o7 o8 o9 o10) (by
      rintro x r ρ ⟨l, rfl, q1, q2, q3⟩
      rw [List.length_cons, Nat.succ_mul] at q2
      obtain ⟨l2, m2, b2, e⟩ := wins_ok h hn6 (walk_one (n := n) (ts := ts) (q3 x (by simp))) q1 (by omega)
      refine ⟨[SC, s, some (wD n ts), some (kD l), WS, o5, o6, o7, o8, o9, o10, some (nD x)], [SC, s, some (wD n ts), some (kD l2), WS, o5, o6, o7, o8, o9, o10, some (nD x)], rfl, ?_, fun _ => by simp, l2, rfl, m2, by omega, fun y hy => q3 y (by simp [hy])⟩
      have eu : uD [x] = .tuple [nD x] := rfl
      rw [eu] at e
      generalize winsB n ts [x] = b at *
      generalize wD n ts = W at *
      generalize kD l = k1 at *
      generalize kD l2 = k2 at *
      simp [e]) (List.range n) [SC, s, some (wD n ts), some (kD l), WS, o5, o6, o7, o8, o9, o10, none] ⟨l, rfl, hm, by rw [List.length_range]; omega, fun x hx => List.mem_range.mp hx⟩
  exact ⟨l2, h1⟩
theorem law_true (ns : List Int) (_ : ns.length ≤ 63) : ∃ fin, m_law [.list (ns.map .int)] = some (.bool true, fin) := by
  obtain ⟨c, e0⟩ := spring_ok ns
  obtain ⟨r, s1, hs1, hr, e1⟩ := pick_ok (s := sD 0 ns.reverse c) ⟨_, _, _, rfl⟩ (m := 6) (by omega) (by omega)
  obtain ⟨ts, s2, hs2, h, e2⟩ := web_ok hs1 (n := 1 + r) (by omega) (by omega)
  have en : (((1 + r : Nat) : Int)) = 1 + (r : Int) := by omega
  have hn6 : 1 + r ≤ 6 := by omega
  have hn0 : 1 ≤ 1 + r := by omega
  have eW0 : wD (1 + r) ts = .tuple [.int (((1 + r : Nat) : Int)), .tuple (ts.map pD)] := rfl
  have e2' := e2
  rw [en] at e2'
  clear e2
  have e2 := e2'
  clear e2'
  obtain ⟨s3, w1, hs3, hw1, e3⟩ := walk_ok h hs2
  obtain ⟨s4, w2, hs4, hw2, e4⟩ := walk_ok h hs3
  have e6 := winning_starts_ok h
  have hW0 : ixD (wD (1 + r) ts) (.int 0) = some (.int ((1 + r : Nat) : Int)) := rfl
  have hrg : rngOk ((1 + r : Nat) : Int) = true := rngOk_n (by omega)
  have hn1 : 1 + r ≤ 1000000 := by omega
  clear en
  generalize hn : 1 + r = n at *
  -- the walks
  have hwc : ∀ (o0 o1 o2 o3 : Option D), lcL [11] (ggName 11) gcYes (gTup (gCons (gVar 11) gNil)) ((List.range n).map nD) [o0, o1, o2, o3, none, none, none, none, none, none, none, none] = some (((List.range n).map fun x => [x]).map uD, [o0, o1, o2, o3, none, none, none, none, none, none, none, none]) := fun o0 o1 o2 o3 => by
    rw [List.map_map]
    exact lc_map0 (own := [11]) (gt := ggName 11) (ge := gTup (gCons (gVar 11) gNil)) (φ := nD) (uD ∘ fun x => [x]) [o0, o1, o2, o3, none, none, none, none, none, none, none, none] (List.range n) (by
      intro x hx
      exact ⟨[o0, o1, o2, o3, none, none, none, none, none, none, none, some (nD x)], rfl, rfl, rfl⟩)
  have hall : ∀ w ∈ ((List.range n).map fun x => [x]) ++ [w1, w2], WalkOk n ts w := fun w hw => by
    rcases List.mem_append.mp hw with z | z
    · obtain ⟨x, hx, rfl⟩ := List.mem_map.mp z
      exact walk_one (List.mem_range.mp hx)
    · rcases List.mem_cons.mp z with rfl | z
      · exact hw1
      · rw [List.mem_singleton.mp z]
        exact hw2
  have hlen : (((List.range n).map fun x => [x]) ++ [w1, w2]).length = n + 2 := by simp
  have hWS : ((List.range n).map fun x => [x]).map uD ++ [uD w1, uD w2] = (((List.range n).map fun x => [x]) ++ [w1, w2]).map uD := by
    rw [List.map_append]
    rfl
  have hWl : (((List.range n).map fun x => [x]).map uD).length ≤ 1000000 := by simp; omega
  have hWl2 : (((List.range n).map fun x => [x]).map uD).length ≤ 999998 := by simp; omega
  have hWSl : ((((List.range n).map fun x => [x]) ++ [w1, w2]).map uD).length ≤ 1000000 := by rw [List.length_map, hlen]; omega
  obtain ⟨ρ1, hloop, l1, o5, o6, o7, o8, hρ1, hm1, hb1⟩ := for_all (gt := ggName 5) (f := lpB) (φ := uD) (fun rs ρ => ∃ (l : List (NK × Bool)) (o5 o6 o7 o8 : Option D), ρ = [some (.list (ns.map .int)), some s4, some (wD n ts), some (kD l), some (.list ((((List.range n).map fun x => [x]) ++ [w1, w2]).map uD)), o5, o6, o7, o8, none, none, none] ∧ MemOk n ts l ∧ l.length + rs.length * 33614 ≤ 268912) (((List.range n).map fun x => [x]) ++ [w1, w2])
    [some (.list (ns.map .int)), some s4, some (wD n ts), some (kD []), some (.list ((((List.range n).map fun x => [x]) ++ [w1, w2]).map uD)), none, none, none, none, none, none, none] ⟨[], none, none, none, none, rfl, fun e he => by simp at he, by rw [hlen, List.length_nil]; omega⟩ (by
      rintro w rs ρ hw ⟨l, o5, o6, o7, o8, rfl, q1, q2⟩
      rw [List.length_cons, Nat.succ_mul] at q2
      obtain ⟨l2, p6, p7, p8, m2, b2, e⟩ := loop_body h hn6 (hall w hw) q1 (by omega) (some (.list (ns.map .int))) (some s4) (some (.list ((((List.range n).map fun x => [x]) ++ [w1, w2]).map uD))) o6 o7 o8 none none
      exact ⟨_, rfl, _, e, l2, _, p6, p7, p8, rfl, m2, by omega⟩)
  subst hρ1
  rw [List.length_nil] at hb1
  obtain ⟨l2, hst⟩ := starts_lc h hn6 hm1 (by omega) (some (.list (ns.map .int))) (some s4) (some (.list ((((List.range n).map fun x => [x]) ++ [w1, w2]).map uD))) o5 o6 o7 o8 (some (lD ((List.range n).filter (good n ts (2 ^ n - 1))))) none
  have hnum := fun (o0 o1 o2 o3 o4 o5 o6 o7 o8 o9 o10 : Option D) => nums (o0 := o0) (o1 := o1) (o2 := o2) (o3 := o3) (o4 := o4) (o5 := o5) (o6 := o6) (o7 := o7) (o8 := o8) (o9 := o9) (o10 := o10) ((List.range n).filter (good n ts (2 ^ n - 1)))
  have eqM := v_eqU ((List.range n).filter (good n ts (2 ^ n - 1)))
  have neL : neD (.list (((List.range n).filter (good n ts (2 ^ n - 1))).map nD)) (.list (((List.range n).filter (good n ts (2 ^ n - 1))).map nD)) = some (.bool false) := by
    rw [v_neL]
    simp
  have hMl : (((List.range n).filter (good n ts (2 ^ n - 1))).map nD).length ≤ 1000000 := by
    rw [List.length_map]
    have := List.length_filter_le (good n ts (2 ^ n - 1)) (List.range n)
    rw [List.length_range] at this
    omega
  have htu : ∀ M : List D, tupleD (.list M) = some (.tuple M) := fun _ => rfl
  have hK0 : PyData.dict [] = kD [] := rfl
  have ha : ∀ A B : List D, addD (.list A) (.list B) = if A.length + B.length ≤ lim then some (.list (A ++ B)) else none := fun A B => by
    simp [addD]
  unfold lD at e6 hst
  generalize ((List.range n).filter (good n ts (2 ^ n - 1))).map nD = M at *
  generalize ((((List.range n).map fun x => [x]) ++ [w1, w2]).map uD) = WS at *
  generalize ((List.range n).map fun x => [x]).map uD = WA at *
  have e1 : m__law_pick [sD 0 ns.reverse c, .int 6] = some (.int (r : Int), [s1, .int 6]) := e1
  unfold sD at e0 e1
  generalize [PyData.int 0, PyData.list (ns.reverse.map .int), PyData.int c] = SL at *
  generalize ns.map PyData.int = SC at *
  generalize wD n ts = W at *
  generalize uD w1 = u1 at *
  generalize uD w2 = u2 at *
  generalize kD [] = K0 at *
  generalize kD l1 = K1 at *
  generalize kD l2 = K2 at *
  have t0 : (sSet 1 (gLO (gCall [none] m__law_spring (gCons (gVar 0) gNil)))) [some (.list SC), none, none, none, none, none, none, none, none, none, none, none] = some (.nx [some (.list SC), some (.list SL), none, none, none, none, none, none, none, none, none, none]) := by
    simp [e0]
  have t1 : (sSet 2 (gCall [some 1, none] m__law_web (gConsB 1 (gCons (gBin addD (gC (.int 1)) (gCall [some 1, none] m__law_pick (gConsB 1 (gCons (gC (.int 6)) gNil)))) gNil)))) [some (.list SC), some (.list SL), none, none, none, none, none, none, none, none, none, none] = some (.nx [some (.list SC), some s2, some W, none, none, none, none, none, none, none, none, none]) := by
    simp [e1, e2]
  have t2 : (sSet 3 (gC (.dict []))) [some (.list SC), some s2, some W, none, none, none, none, none, none, none, none, none] = some (.nx [some (.list SC), some s2, some W, some K0, none, none, none, none, none, none, none, none]) := by
    simp [hK0]
  have t3 : (sSet 4 (gBin addD (gLc [11] (giR1 (gBin ixD (gVar 2) (gC (.int 0)))) (ggName 11) gcYes (gTup (gCons (gVar 11) gNil))) (gLst (gCons (gCall [some 1, none] m__law_walk (gConsB 1 (gCons (gVar 2) gNil))) (gCons (gCall [some 1, none] m__law_walk (gConsB 1 (gCons (gVar 2) gNil))) gNil))))) [some (.list SC), some s2, some W, some K0, none, none, none, none, none, none, none, none] = some (.nx [some (.list SC), some s4, some W, some K0, some (.list WS), none, none, none, none, none, none, none]) := by
    simp [hW0, hrg, hn1, hwc, e3, e4, hWS, ha, hWl, hWl2]
  have t4 : (sFor (giS (gVar 4)) (ggName 5) (sSeq (sSet 6 (gCall [none, none] m_mover_wins (gCons (gVar 2) (gCons (gVar 5) gNil)))) (sSeq (sIf (gOr (gNot (gTru (gUn (isiD "bool") (gVar 6)))) (gT (gBin neD (gVar 6) (gCall [none, none, some 3] m__law_wins (gCons (gVar 2) (gCons (gVar 5) (gConsB 3 gNil))))))) (sRet (gC (.bool false))) sNil) (sSeq (sSet 7 (gLO (gCall [none, none] m_winning_moves (gCons (gVar 2) (gCons (gVar 5) gNil))))) (sSeq (sSet 8 (gCall [none, none, some 3] m__law_moves (gCons (gVar 2) (gCons (gVar 5) (gConsB 3 gNil))))) (sSeq (sIf (gOr (gNot (gTru (gUn (isiD "list") (gVar 7)))) (gOr (gT (gBin neD (gLc [11] (giS (gVar 7)) (ggName 11) (gNot (gTru (gCall [none] m__law_is_number (gCons (gVar 11) gNil)))) (gVar 11)) (gLst gNil))) (gT (gBin neD (gVar 7) (gVar 8))))) (sRet (gC (.bool false))) sNil) (sSeq (sExpr (gApp 7 (gBin ixD (gVar 5) (gC (.int 0))))) (sIf (gOr (gT (gBin neD (gLO (gCallK [1, 0] m_winning_moves (gCons (gVar 5) (gCons (gVar 2) gNil)))) (gVar 8))) (gT (gBin neD (gCallK [1, 0] m_mover_wins (gCons (gVar 5) (gCons (gVar 2) gNil))) (gBin neD (gVar 8) (gLst gNil))))) (sRet (gC (.bool false))) sNil)))))))) [some (.list SC), some s4, some W, some K0, some (.list WS), none, none, none, none, none, none, none] = some (.nx [some (.list SC), some s4, some W, some K1, some (.list WS), o5, o6, o7, o8, none, none, none]) := by
    simp [hloop, hWSl]
  have t5 : (sSet 9 (gLO (gCall [none] m_winning_starts (gCons (gVar 2) gNil)))) [some (.list SC), some s4, some W, some K1, some (.list WS), o5, o6, o7, o8, none, none, none] = some (.nx [some (.list SC), some s4, some W, some K1, some (.list WS), o5, o6, o7, o8, some (.list M), none, none]) := by
    simp [e6]
  have t6 : (sIf (gOr (gNot (gTru (gUn (isiD "list") (gVar 9)))) (gT (gBin neD (gLc [11] (giS (gVar 9)) (ggName 11) (gNot (gTru (gCall [none] m__law_is_number (gCons (gVar 11) gNil)))) (gVar 11)) (gLst gNil)))) (sRet (gC (.bool false))) sNil) [some (.list SC), some s4, some W, some K1, some (.list WS), o5, o6, o7, o8, some (.list M), none, none] = some (.nx [some (.list SC), some s4, some W, some K1, some (.list WS), o5, o6, o7, o8, some (.list M), none, none]) := by
    simp [hnum, hMl, neN]
  have t7 : (sIf (gT (gBin neD (gVar 9) (gLc [11] (giR1 (gBin ixD (gVar 2) (gC (.int 0)))) (ggName 11) (gNot (gTru (gCall [none, none, some 3] m__law_wins (gCons (gVar 2) (gCons (gTup (gCons (gVar 11) gNil)) (gConsB 3 gNil)))))) (gVar 11)))) (sRet (gC (.bool false))) sNil) [some (.list SC), some s4, some W, some K1, some (.list WS), o5, o6, o7, o8, some (.list M), none, none] = some (.nx [some (.list SC), some s4, some W, some K2, some (.list WS), o5, o6, o7, o8, some (.list M), none, none]) := by
    simp [hW0, hrg, hn1, hst, neL]
  have t8 : (sSet 10 (gUn tupleD (gVar 9))) [some (.list SC), some s4, some W, some K2, some (.list WS), o5, o6, o7, o8, some (.list M), none, none] = some (.nx [some (.list SC), some s4, some W, some K2, some (.list WS), o5, o6, o7, o8, some (.list M), some (.tuple M), none]) := by
    simp [htu]
  have t9 : (sExpr (gApp 9 (gC (.int 0)))) [some (.list SC), some s4, some W, some K2, some (.list WS), o5, o6, o7, o8, some (.list M), some (.tuple M), none] = some (.nx [some (.list SC), some s4, some W, some K2, some (.list WS), o5, o6, o7, o8, some (.list (M ++ [.int 0])), some (.tuple M), none]) := by
    simp [hMl]
  have t10 : (sRet (gBin eqD (gUn tupleD (gLO (gCallK [0] m_winning_starts (gCons (gVar 2) gNil)))) (gVar 10))) [some (.list SC), some s4, some W, some K2, some (.list WS), o5, o6, o7, o8, some (.list (M ++ [.int 0])), some (.tuple M), none] = some (.rt (.bool true) [some (.list SC), some s4, some W, some K2, some (.list WS), o5, o6, o7, o8, some (.list (M ++ [.int 0])), some (.tuple M), none]) := by
    simp [e6, htu, eqM]
  have all : gf_law [some (.list SC), none, none, none, none, none, none, none, none, none, none, none] = some (.rt (.bool true) [some (.list SC), some s4, some W, some K2, some (.list WS), o5, o6, o7, o8, some (.list (M ++ [.int 0])), some (.tuple M), none]) := by
    unfold gf_law
    rw [sq65 t0, sq65 t1, sq65 t2, sq65 t3, sq65 t4, sq65 t5, sq65 t6, sq65 t7, sq65 t8, sq65 t9]
    exact t10
  unfold m_law
  simp [all]
end Lw

set_option Elab.async false
set_option linter.all false
set_option maxRecDepth 100000
set_option maxHeartbeats 4000000
namespace Lw
open PySem L2 PyProof.Rows DL
theorem dp_ints {K : Fr} {H : Hp} : ∀ (ns : List Int), DL.DpAll K H (ns.map V.int) (ns.map PyData.int)
  | [] => .nil
  | n :: ns => .cons (.int n) (dp_ints ns)
theorem sp_law {K : Fr} {H : Hp} {a : Addr} {ns : List Int} (hl : ns.length ≤ 63) (hS : SqL K H a (ns.map V.int)) : spD K c_law 1 0 m_law [.ref a] H (fun v _ => v = .bl true) (fun _ _ _ => False) := by
  obtain ⟨fin, hm⟩ := law_true ns hl
  refine ⟨rfl, fun _ => [], H, [.list (ns.map .int)], .bool true, fin, rfl, ⟨Ex.refl _, rfl, fun i d e => ?_, fun i _ => rfl, fun i j _ b hb => by simp at hb⟩, hm, fun v A' F' H' Mx S N R => dp_bool R.froz0⟩
  match i, e with
  | 0, e =>
    cases e
    exact ⟨.ref a, rfl, Own.froz0 (Dp.lst hS (dp_ints ns))⟩
theorem all_mk {w : World} {K : Fr} {mg : PySem.Str → Option Value} {fa : Addr} (T : Txt K mg) (hfa : mg "law" = some (.ref fa)) :
    ∃ fd : FuncData, (∀ (s : Shared) (u : Value), BindsTo s fd ⟨[u], []⟩ [("_law_script", u)]) ∧
        ∀ base : Heap, K.In base → base.Ns mainGlobals mg → FnOk PySem.Challenge.pw_everypairing_k65_whole_game_by_all_walks w K mg base CX0 29 fa fd ["_law_script"] (spD K c_law 1 0 m_law) := by
  obtain ⟨f, fd, D⟩ := T.d_law
  have e := hfa.symm.trans D.g
  cases e
  refine ⟨fd, fun s u => ?_, fun base _ _ => ok_law T D⟩
  obtain ⟨oc, od, kV, doc, pm, an, cdv, ct, osl, rfl, lk, hcd⟩ := D.F.ex
  exact .of_eq rfl
end Lw
open PySem PySem.W PyProof.Rows
set_option maxHeartbeats 0 in
theorem PySem.Challenge.cw_everypairing_k65_whole_game_by_all_walks_holds : PySem.Challenge.rw_everypairing_k65_whole_game_by_all_walks.Holds := by
  w_on; o_law; k_head; (case hw => w_witness2)
  k_fill
  refine L2.walk_of (l := PySem.Challenge.rw_everypairing_k65_whole_game_by_all_walks) (n := 63) (k := 29) (x := "_law_script") (CX := fun _ => L2.CX0) (sp := fun w => DL.spD _ Lw.c_law 1 0 Lw.m_law) rfl (by decide) rfl ⟨rfl, by decide, by decide⟩ (fun w h Y => PySem.W.kIn_of Y) ?F (fun _ _ a ns hl _ hS => Lw.sp_law hl hS) (fun _ _ _ _ _ h => h)
  case F =>
    intro w mg fa h KX G hmg
    refine' Lw.all_mk (Lw.txt_mk KX G ?a0 ?l0 ?e0 ?k0 ?a1 ?l1 ?e1 ?k1 ?a2 ?l2 ?e2 ?k2 ?a3 ?l3 ?e3 ?k3 ?a4 ?l4 ?e4 ?k4 ?a5 ?l5 ?e5 ?k5 ?a6 ?l6 ?e6 ?k6 ?a7 ?l7 ?e7 ?k7 ?a8 ?l8 ?e8 ?k8 ?a9 ?l9 ?e9 ?k9 ?a10 ?l10 ?e10 ?k10 ?a11 ?l11 ?e11 ?k11 ?a12 ?l12 ?e12 ?k12 ?a13 ?l13 ?e13 ?k13 ?a14 ?l14 ?e14 ?k14 ?a15 ?l15 ?e15 ?k15 ?a16 ?l16 ?e16 ?k16 ?a17 ?l17 ?e17 ?k17 ?a18 ?l18 ?e18 ?k18 ?a19 ?l19 ?e19 ?k19 ?a20 ?l20 ?e20 ?k20 ?a21 ?l21 ?e21 ?k21 ?a22 ?l22 ?e22 ?k22 ?a23 ?l23 ?e23 ?k23 ?a24 ?l24 ?e24 ?k24 ?a25 ?l25 ?e25 ?k25 ?a26 ?l26 ?e26 ?k26 ?z_abs ?z_all ?z_bool ?z_int ?z_isinstance ?z_len ?z_list ?z_max ?z_min ?z_range ?z_set ?z_sorted ?z_sum ?z_tuple ?q_MOST_PLACES) hmg
    (case a0 => k_is); (case l0 => k_is); (case e0 => k_is); (case k0 => k_is); (case a1 => k_is); (case l1 => k_is); (case e1 => k_is); (case k1 => k_is); (case a2 => k_is); (case l2 => k_is); (case e2 => k_is); (case k2 => k_is); (case a3 => k_is); (case l3 => k_is); (case e3 => k_is); (case k3 => k_is); (case a4 => k_is); (case l4 => k_is); (case e4 => k_is); (case k4 => k_is); (case a5 => k_is); (case l5 => k_is); (case e5 => k_is); (case k5 => k_is); (case a6 => k_is); (case l6 => k_is); (case e6 => k_is); (case k6 => k_is); (case a7 => k_is); (case l7 => k_is); (case e7 => k_is); (case k7 => k_is); (case a8 => k_is); (case l8 => k_is); (case e8 => k_is); (case k8 => k_is); (case a9 => k_is); (case l9 => k_is); (case e9 => k_is); (case k9 => k_is); (case a10 => k_is); (case l10 => k_is); (case e10 => k_is); (case k10 => k_is); (case a11 => k_is); (case l11 => k_is); (case e11 => k_is); (case k11 => k_is); (case a12 => k_is); (case l12 => k_is); (case e12 => k_is); (case k12 => k_is); (case a13 => k_is); (case l13 => k_is); (case e13 => k_is); (case k13 => k_is); (case a14 => k_is); (case l14 => k_is); (case e14 => k_is); (case k14 => k_is); (case a15 => k_is); (case l15 => k_is); (case e15 => k_is); (case k15 => k_is); (case a16 => k_is); (case l16 => k_is); (case e16 => k_is); (case k16 => k_is); (case a17 => k_is); (case l17 => k_is); (case e17 => k_is); (case k17 => k_is); (case a18 => k_is); (case l18 => k_is); (case e18 => k_is); (case k18 => k_is); (case a19 => k_is); (case l19 => k_is); (case e19 => k_is); (case k19 => k_is); (case a20 => k_is); (case l20 => k_is); (case e20 => k_is); (case k20 => k_is); (case a21 => k_is); (case l21 => k_is); (case e21 => k_is); (case k21 => k_is); (case a22 => k_is); (case l22 => k_is); (case e22 => k_is); (case k22 => k_is); (case a23 => k_is); (case l23 => k_is); (case e23 => k_is); (case k23 => k_is); (case a24 => k_is); (case l24 => k_is); (case e24 => k_is); (case k24 => k_is); (case a25 => k_is); (case l25 => k_is); (case e25 => k_is); (case k25 => k_is); (case a26 => k_is); (case l26 => k_is); (case e26 => k_is); (case k26 => k_is); (case z_abs => k_is); (case z_all => k_is); (case z_bool => k_is); (case z_int => k_is); (case z_isinstance => k_is); (case z_len => k_is); (case z_list => k_is); (case z_max => k_is); (case z_min => k_is); (case z_range => k_is); (case z_set => k_is); (case z_sorted => k_is); (case z_sum => k_is); (case z_tuple => k_is); (case q_MOST_PLACES => k_is)

